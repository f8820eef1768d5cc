import PyProof.Rows.All
import Wide.All
import OpenK.AllK
import Wide.FinOn
import PyProof.EqAt
import PyProof.EqKinds
import PyProof.TupleCall
import PyProof.ReprRoads
import PyProof.InstEq
import KE.KExcIs
import HandS.ForMost
import HandS.ForExc
import HandS.ExcInit
import HandS.ExcField
import HandS.ExcIs
import HandS.IsInst
import HandS.Property
import HandS.MakeKwOnly
import HandS.Style
import HandS.Wide
import HandS.TupAny
import HandS.EndBits
import PySem.Challenge.RW_stagesfull_k02_nets
set_option Elab.async false
set_option linter.all false
set_option maxRecDepth 100000
set_option maxHeartbeats 4000000
/-! Rules of my own over the layer: repr of data, == and != by an own eq, len of an own instance, an instance made in a try, isinstance of a caught error with fields; promises that hold where no repr is under way. -/
namespace NR
open PySem PySem.Spec PyProof.Rows L2

/-! ### repr of data -/
def rRepr (K : PySem.W.Frag) : List V → Hp → VK → Prop := fun xs H Q =>
  ∃ (v : V) (d : PyData), xs = [v] ∧ Dp K H v d ∧ d.showable = true ∧ d.hasDict = false ∧ d.depth ≤ 50 ∧ d.shown.length ≤ sizeLine ∧ Q (.str d.shown) H
theorem call_repr {X : Cx} (hg : X.A.guards = some []) (hu : X.A.units + 64 < cLine) : CallR X (.builtin "repr") (rRepr X.K) := by
  intro pins s σ H xs us Q I r h
  obtain ⟨v, d, rfl, hd, hs, hn, hdep, hsz, q⟩ := h
  obtain ⟨u, rfl, rv⟩ := vals1 r
  have hd' := hd
  cases hd with
  | non =>
    cases (show u = Value.none from rv)
    exact PySem.P.repr_of_none ⟨.str _, H, I.tok _, ⟨_, rfl⟩, by simpa only [PyData.shown] using q⟩
  | bl b =>
    cases (show u = Value.bool b from rv)
    exact PySem.P.repr_of_bool ⟨.str _, H, I.tok _, ⟨_, rfl⟩, by simpa only [PyData.shown] using q⟩
  | int i =>
    obtain ⟨t, rfl⟩ := rv
    have hz : i.natAbs.log2 < 1920 := by simpa [PyData.showable] using hs
    exact PySem.P.repr_of_int hz ⟨.str _, H, I.tok _, ⟨_, rfl⟩, by simpa only [PyData.shown] using q⟩
  | str x =>
    obtain ⟨t, rfl⟩ := rv
    have hz : (reprText x).length ≤ sizeLine := by simpa only [PyData.shown] using hsz
    exact PySem.P.repr_of_str ⟨.str _, H, I.tok _, ⟨_, rfl⟩, by simpa only [PyData.shown] using q⟩ hz
  | lst h1 h2 =>
    rename_i a ys ds
    cases (show u = Value.ref a from rv)
    obtain ⟨as, hr⟩ := Dp.reads I _ _ _ hd' rfl
    exact repr_of_reads' hr hs (PyData.noDict_hsm hn) hg (by omega) (fun _ _ e => e) (fun h' u tk k => ⟨.str _, H, I.kept k, ⟨_, rfl⟩, q⟩) hsz
  | tup h1 h2 =>
    rename_i a ys ds
    cases (show u = Value.ref a from rv)
    obtain ⟨as, hr⟩ := Dp.reads I _ _ _ hd' rfl
    exact repr_of_reads' hr hs (PyData.noDict_hsm hn) hg (by omega) (fun _ _ e => e) (fun h' u tk k => ⟨.str _, H, I.kept k, ⟨_, rfl⟩, q⟩) hsz

/-! ### a def of the program, run one level further in -/
section
variable {X : Cx} {k : Nat} {f : Addr} {fd : FuncData} {ps : List Str} {sp : Sp}
theorem run_at {B : Around} {pins : List (Addr × Obj)} {σ : L2.St} {H : Hp} {s : Shared} {Q : VK} {us : List Value} {vs : List V} {E' : Value → Shared → Prop} (hfr : B.frames = X.A.frames)
    (F : FnOk X.prog X.w X.K X.mg X.base CX0 k f fd ps sp) (hr : Room k B) (hb : Binds X.K fd ps []) (I : Inv X pins σ H s) (r : Vals vs us) (h : sp vs H Q E0) :
    wpAny (model X.prog X.w) B (call (.ref f) us) (EP X pins σ Q) E' s := by
  have hl : us.length = ps.length := r.length.symm.trans (F.len _ _ _ _ h)
  have hb' : BindsTo s fd ⟨us, []⟩ (ps.zip us) := by
    simpa only [List.append_nil] using hb s us I.kIn (by simpa only [List.append_nil] using hl)
  have e0 := I.env0
  have e1 : Env0 X.prog X.w X.K X.mg X.base B X.stack s H := ⟨hfr.trans e0.frames, e0.mod, e0.bs, e0.bsz, e0.funs, e0.frf, e0.hok, e0.bare⟩
  refine wpAny_call (codeAny_mono (F.run B X.stack s H ⟨us, []⟩ us vs Q E0 hr e1 hb' r h) fun res s' hq => ?_)
  rcases res with er | fl
  · exact False.elim hq
  · rcases fl with _ | _ | _ | u
    all_goals first | exact I.after hq | exact False.elim hq

/-! ### x == y, x an instance whose class has an eq of its own: any answer -/
/-- y's type does not come first -/
def Sec (K : PySem.W.Frag) (C : Addr) (H : Hp) (y : V) : Prop := ∃ t, TyX K H y t ∧ PySem.W.notFirst K C t = true
def rEqO (K : PySem.W.Frag) (C : Addr) (sp : Sp) : R2 := fun x y H Q =>
  ∃ a dx fs, x = .ref a ∧ H a = some (.ins C dx fs) ∧ Sec K C H y ∧ sp [x, y] H (fun v H' => ∃ b, v = .bl b ∧ Q (.bl b) H') E0
theorem op_eqO {C : Addr} (F : FnOk X.prog X.w X.K X.mg X.base CX0 k f fd ps sp) (hr : Room k X.A) (hb : Binds X.K fd ps []) (hs : PySem.W.findIn X.K (.ref C) "__eq__" = some (some (.ref f)))
    (hf : PySem.W.isFn X.K (.ref f) = true) : OpR X (compareOp .Eq) (rEqO X.K C sp) := by
  intro pins s σ H x y v u Q I rx ry h
  obtain ⟨a, dx, fs, rfl, ha, ⟨t, ty, nf⟩, hsp⟩ := h
  cases (show v = Value.ref a from rx)
  obtain ⟨mA, O, _⟩ := ins_get I.hok ha
  obtain ⟨od, J, _⟩ := O.look
  obtain ⟨m, hF⟩ := I.fr
  obtain ⟨P, Z, p, _⟩ := kit_of I ry ty
  show wpAny _ _ (richCompare .Eq (.ref a) u) _ _ _
  refine PySem.W.cmp_K (op := .Eq) (tb := t) hr.units0 hF I.ok.mod.kin J (Z.ty _ _ I.kIn p) nf hs hf ?_
  refine thn (run_at rfl F hr hb I (us := [.ref a, u]) (vs := [.ref a, y]) (.cons rfl (.cons ry .nil)) hsp) fun w s' hq => ?_
  obtain ⟨z, H', I', rz, b, ez, q⟩ := hq
  subst ez
  cases (show w = Value.bool b from rz)
  exact ⟨.bl b, H', I', rfl, q⟩

/-! ### x != y, by object's own, over that eq -/
theorem ne_body {prog : Program} {w : World} {A : Around} {E : Value → Shared → Prop} {s : Shared} {K : PySem.W.Frag} {x C f : Addr} {ox : Obj} {od : Option Obj} {b : Value} {Q : Value → Shared → Prop}
    (hu : A.units + 1 < cLine) (XK : K.In s.heap) (J : PySem.W.InstAt s.heap x ox C od) (hs : PySem.W.findIn K (.ref C) "__eq__" = some (some (.ref f))) (hf : PySem.W.isFn K (.ref f) = true)
    (ho : PySem.W.subIn K (.ref C) (.type "object") = some true)
    (h : wpAny (model prog w) A.in1 (call (.ref f) [.ref x, b]) (fun v s' => ∃ c, v = .bool c ∧ Q (.bool (!c)) s') E s) :
    wpAny (model prog w) A (call (.builtin "object.__ne__") [.ref x, b]) Q E s := by
  have sub : PySem.W.Looks (model prog w) s.heap (isInstance (.ref x) (.type "object")) true := J.type.andThen (PySem.W.looks_subIn XK ho)
  refine wpAny_call (codeAny_call_builtin PySem.F.cmp_object.ne.plain PySem.F.cmpEntry_ne (PySem.W.check_slot PySem.F.cmpKind_ne PySem.F.cmpSplit_ne sub (PySem.F.cmpArgs_ne _ _) ?_))
  unfold Builtin.«object.__ne__»
  refine wpAny_bind (wpAny_of_eq (a := ((Value.ref x : Value), [b])) (by first | rfl | (simp only [slotArgs]; rfl)) ?_)
  refine wpAny_bind (wpAny_cRoomFor (show A.in1.units < cLine from hu) ?_)
  refine wpAny_bind (m := callSpecialIfBound? (.ref x) (Str.ofString "__eq__") [b]) (PySem.W.ifBound_K XK J hs hf (wpAny_mono h (fun v s' hv => ?_) fun _ _ e => e))
  obtain ⟨c, rfl, q⟩ := hv
  first
    | exact wpAny_bind (wpAny_truthy_bool (wpAny_pure q))
    | (refine wpAny_bind (m := truthy (.bool c)) (wpAny_truthy_bool ?_); first | exact wpAny_pure q | exact q)
/-- what tryCompare makes of an answer -/
def tcEnd : Option Value → Sem (Option Value)
  | some .notImplemented | none => pure none
  | some v => pure (some v)
theorem ne_obj {prog : Program} {w : World} {A : Around} {E : Value → Shared → Prop} {s : Shared} {K : PySem.W.Frag} {x C L f : Addr} {h0 : Heap} {m : Str → Option Value} {ox : Obj} {od : Option Obj} {b tb : Value} {Q : Value → Shared → Prop}
    (hu : A.units + 1 < cLine) (FR : Fr h0 L s.heap m) (X0 : K.In h0) (J : PySem.W.InstAt s.heap x ox C od) (hb : PySem.W.Looks (model prog w) s.heap (typeOf b) tb) (hn : PySem.W.notFirst K C tb = true)
    (hne : PySem.W.findIn K (.ref C) "__ne__" = some (some (.builtin "object.__ne__"))) (hs : PySem.W.findIn K (.ref C) "__eq__" = some (some (.ref f))) (hf : PySem.W.isFn K (.ref f) = true)
    (ho : PySem.W.subIn K (.ref C) (.type "object") = some true)
    (h : wpAny (model prog w) A.in1 (call (.ref f) [.ref x, b]) (fun v s' => ∃ c, v = .bool c ∧ Q (.bool (!c)) s') E s) : wpAny (model prog w) A (richCompare .NotEq (.ref x) b) Q E s := by
  have XK := X0.keeps FR.keep
  have tried : wpAny (model prog w) A (tryCompare (.ref x) "__ne__" b) (fun r s' => ∃ v, r = some v ∧ Q v s') E s := by
    unfold tryCompare
    refine wpAny_bind ?_
    simp only [callSpecialIfBound?, bindSpecialIfBound?]
    refine wpAny_holding (wpAny_bind (wpAny_bind (wpAny_bind (J.type.here ((PySem.W.looks_findIn XK hne).here ?_)))))
    simp only [PySem.F.cmp_object.ne.bind]
    refine wpAny_bind (wpAny_askSetting (wpAny_ite ?_))
    have fin : wpAny (model prog w) A (call (.builtin "object.__ne__") [.ref x, b]) (fun v s' => ∃ c, v = .bool c ∧ Q v s') E s := ne_body hu XK J hs hf ho (wpAny_mono h (fun v s' ⟨c, e, q⟩ => ⟨c, e, _, rfl, q⟩) fun _ _ e => e)
    have fin2 : wpAny (model prog w) A (call (.builtin "object.__ne__") ([.ref x] ++ [b]) >>= fun v => pure (some v)) (fun r s' => wpAny (model prog w) A (tcEnd r) (fun r s' => ∃ v, r = some v ∧ Q v s') E s') E s :=
      wpAny_bind (wpAny_mono fin (fun v s' ⟨c, e, q⟩ => wpAny_pure (by subst e; exact wpAny_pure ⟨_, rfl, q⟩)) fun _ _ e => e)
    split
    · exact wpAny_bind (wpAny_pure (wpAny_pure (by exact fin2)))
    · exact wpAny_tryCatch (wpAny_bind (wpAny_pure (wpAny_pure (by exact fin2))))
  unfold richCompare
  simp only [oneThing_ref]
  refine wpAny_holding (wpAny_bind (wpAny_cRoomFor (Nat.lt_of_succ_lt hu) ?_))
  refine wpAny_bind (J.type.here (wpAny_bind (hb.here ?_)))
  have rest : ∀ {k : Option Value → Sem Value}, (∀ v s', Q v s' → wpAny (model prog w) A (k (some v)) Q E s') → wpAny (model prog w) A (tryCompare (.ref x) "__ne__" b >>= k) Q E s := fun {k} hk =>
    wpAny_bind (wpAny_mono tried (fun r s' ⟨v, e, q⟩ => by subst e; exact hk v s' q) fun _ _ e => e)
  split
  · rename_i q
    have e : PySem.W.subIn K tb (.ref C) = some false := by
      rcases Bool.or_eq_true_iff.mp hn with e | e
      · rw [beq_iff_eq.mp e] at q
        simp at q
      · exact beq_iff_eq.mp e
    refine wpAny_bind ((PySem.W.looks_subIn XK e).here ?_)
    simp only [Bool.false_eq_true, if_false]
    exact rest fun v s' q => wpAny_pure q
  · refine wpAny_bind (wpAny_pure ?_)
    simp only [Bool.false_eq_true, if_false]
    exact rest fun v s' q => wpAny_pure q
def rNeO (K : PySem.W.Frag) (C : Addr) (sp : Sp) : R2 := fun x y H Q =>
  ∃ a dx fs, x = .ref a ∧ H a = some (.ins C dx fs) ∧ Sec K C H y ∧ sp [x, y] H (fun v H' => ∃ b, v = .bl b ∧ Q (.bl (!b)) H') E0
theorem op_neO {C : Addr} (F : FnOk X.prog X.w X.K X.mg X.base CX0 k f fd ps sp) (hr : Room (k + 1) X.A) (hb : Binds X.K fd ps []) (hs : PySem.W.findIn X.K (.ref C) "__eq__" = some (some (.ref f)))
    (hne : PySem.W.findIn X.K (.ref C) "__ne__" = some (some (.builtin "object.__ne__"))) (hf : PySem.W.isFn X.K (.ref f) = true) (ho : PySem.W.subIn X.K (.ref C) (.type "object") = some true) : OpR X (compareOp .NotEq) (rNeO X.K C sp) := by
  intro pins s σ H x y v u Q I rx ry h
  obtain ⟨a, dx, fs, rfl, ha, ⟨t, ty, nf⟩, hsp⟩ := h
  cases (show v = Value.ref a from rx)
  obtain ⟨mA, O, _⟩ := ins_get I.hok ha
  obtain ⟨od, J, _⟩ := O.look
  obtain ⟨m, hF⟩ := I.fr
  obtain ⟨P, Z, p, _⟩ := kit_of I ry ty
  show wpAny _ _ (richCompare .NotEq (.ref a) u) _ _ _
  refine ne_obj (by have := hr.units; omega) hF I.ok.mod.kin J (Z.ty _ _ I.kIn p) nf hne hs hf ho ?_
  refine thn (run_at (B := X.A.in1) rfl F hr.in1 hb I (us := [.ref a, u]) (vs := [.ref a, y]) (.cons rfl (.cons ry .nil)) hsp) fun w s' hq => ?_
  obtain ⟨z, H', I', rz, b, ez, q⟩ := hq
  subst ez
  cases (show w = Value.bool b from rz)
  exact ⟨b, rfl, .bl (!b), H', I', rfl, q⟩

/-! ### len(x), x an instance whose class has a len of its own -/
def rLenO (C : Addr) (sp : Sp) : List V → Hp → VK → Prop := fun xs H Q =>
  ∃ a dx fs, xs = [.ref a] ∧ H a = some (.ins C dx fs) ∧ sp [.ref a] H (fun v H' => ∃ n : Nat, v = .int n ∧ n ≤ 1000 ∧ Q (.int n) H') E0
theorem call_lenO {C : Addr} (F : FnOk X.prog X.w X.K X.mg X.base CX0 k f fd ps sp) (hr : Room (k + 1) X.A) (hb : Binds X.K fd ps []) (hs : PySem.W.findIn X.K (.ref C) "__len__" = some (some (.ref f)))
    (hf : PySem.W.isFn X.K (.ref f) = true) : CallR X (.builtin "len") (rLenO C sp) := by
  intro pins s σ H xs us Q I r h
  obtain ⟨a, dx, fs, rfl, ha, hsp⟩ := h
  obtain ⟨u, rfl, ru⟩ := vals1 r
  cases (show u = Value.ref a from ru)
  obtain ⟨mA, O, _⟩ := ins_get I.hok ha
  obtain ⟨od, J, _⟩ := O.look
  obtain ⟨m, hF⟩ := I.fr
  refine PySem.W.len_K hF I.ok.mod.kin J hs hf ?_
  refine thn (run_at (B := X.A.in1) rfl F hr.in1 hb I (us := [.ref a]) (vs := [.ref a]) (.cons rfl .nil) hsp) fun w s' hq => ?_
  obtain ⟨z, H', I', rz, n, ez, hn, q⟩ := hq
  subst ez
  obtain ⟨t, rfl⟩ := (show ∃ t, w = Value.int n t from rz)
  exact ⟨⟨by omega, by omega⟩, .int n, H', I'.tok _, ⟨_, rfl⟩, q⟩

/-! ### C(e, ..) where what is raised is wished for at the slots -/
def tMakeS (C : Addr) (sp : Sp) (E : L2.St → XK) (t : TA) : TE := fun σ H Q => t σ H fun vs H1 => ∀ x dx, H1 x = none → H1 dx = none → dx ≠ x →
  sp (.ref x :: vs) (upd (upd H1 dx (.own x)) x (.ins C dx [])) (fun v H2 => v = .non ∧ Q (.ref x) H2) (E σ)
theorem run_makeS {CX : CXT} {C : Addr} {E : XK} {pins : List (Addr × Obj)} {σ : L2.St} {H : Hp} {s : Shared} {Q : VK} {us : List Value} {vs : List V} (M : Mk X.K C f) (F : FnOk X.prog X.w X.K X.mg X.base CX k f fd ps sp) (hr : Room (k + 1) X.A)
    (hb : Binds X.K fd ps []) (hx : PassesAt CX X σ E) (I : Inv X pins σ H s) (r : Vals vs us)
    (h : ∀ x dx, H x = none → H dx = none → dx ≠ x → sp (.ref x :: vs) (upd (upd H dx (.own x)) x (.ins C dx [])) (fun v H2 => v = .non ∧ Q (.ref x) H2) E) :
    wpAny (model X.prog X.w) X.A (call (.ref C) us) (EP X pins σ Q) X.xe s := by
  have fresh : ∀ d, H (s.heap.objs.size + d) = none := fun d => I.hok.fresh (Nat.le_add_right _ d)
  have want := h (s.heap.objs.size + 1) s.heap.objs.size (fresh 1) (fresh 0) (Nat.ne_of_lt (Nat.lt_succ_self _))
  have J := Inv.made (C := C) I
  have rr : Vals (V.ref (s.heap.objs.size + 1) :: vs) (Value.ref (s.heap.objs.size + 1) :: us) := .cons rfl r
  have hl : (Value.ref (s.heap.objs.size + 1) :: us).length = ps.length := rr.length.symm.trans (F.len _ _ _ _ want)
  have hb' := hb _ (Value.ref (s.heap.objs.size + 1) :: us) J.kIn (by rw [List.append_nil]; exact hl)
  rw [List.append_nil] at hb'
  have go := F.run _ X.stack _ _ ⟨Value.ref (s.heap.objs.size + 1) :: us, []⟩ _ _ _ E (hr.make C us []) (J.env0.make C us []) hb' rr want
  refine wpAny_call (make_map (f := f) I.kIn M.makes M.init (beq_iff_eq.mp M.fn) (codeAny_mono go fun res s' hq => ?_))
  rcases res with er | fl
  · exact hx pins _ _ er s' J hq
  · cases fl with
    | ret u =>
      obtain ⟨v, H', J', rv, ev, q⟩ := J.after hq
      subst ev
      exact ⟨rv, .ref (s.heap.objs.size + 1), H', J', rfl, q⟩
    | next => exact False.elim hq
    | brk => exact False.elim hq
    | cont => exact False.elim hq
theorem pe_makeS {CX : CXT} {C : Addr} {E : L2.St → XK} {x : Str} {p pos : Pos} {e : Expr} {es : List Expr} {t : TA} (M : Mk X.K C f) (F : FnOk X.prog X.w X.K X.mg X.base CX k f fd ps sp) (hr : Room (k + 1) X.A) (hg : Gl X x) (hm : X.mg x = some (.ref C))
    (hb : Binds X.K fd ps []) (hx : ∀ σ, PassesAt CX X σ (E σ)) (ha : PA X (e :: es) t) (hdb : (x == ("__debug__" : Str)) = false := by decide)
    (he : starEach (e :: es) X.env = (false, eval e X.env) :: starEach es X.env := by rfl) (hpl : (backTo pos (starEach es X.env)).any (·.1) = false := by rfl) :
    PE X (.Call (.Name x p) (e :: es) [] pos) (tMakeS C sp E t) :=
  ⟨fun pins s σ H Q I h => wpAny_Call_Name_kw (ld_glob I hg hm (PySem.W.callWith_K (h₀ := X.base) I.ok.mod.kin M.kp (thn (ha.run pos pins s σ H _ I h) fun us s1 hh => by
    obtain ⟨vs, H1, I1, r, q⟩ := hh
    exact ⟨I1.kIn, run_makeS M F hr hb (hx σ) I1 r q⟩) he hpl) hdb)⟩
end

/-! ### isinstance(e, c), e the caught error, that has a dict of its own -/
def rIsF (K : PySem.W.Frag) (D a : Addr) (cls : Value) (d : Option Addr) : List V → Hp → VK → Prop := fun xs H Q =>
  cls = .ref D ∧ ∃ (dd : Addr) (fs : List (Str × V)), d = some dd ∧ H dd = some (.xd fs) ∧ rIsE K D a xs H Q
theorem call_isF {X : Cx} {a D : Addr} {oe : Obj} {cls : Value} {d : Option Addr} {pn : List (Addr × Obj)} (T : ExcC X.K D) (hz : Zc cls d oe) (hf : ∃ vs, oe.data = .fields vs) :
    CallR (X.suite a ((a, oe) :: pn)) (.builtin "isinstance") (rIsF X.K D a cls d) := by
  intro pins s σ H xs us Q I r h
  obtain ⟨ec, dd, fs, ed, hx, c, cv, b, rfl, hcv, e, q⟩ := h
  subst ec ed
  obtain ⟨u1, u2, rfl, r1, r2⟩ := vals2 r
  cases (show u1 = Value.ref a from r1)
  have e2 := hcv _ r2
  subst e2
  obtain ⟨hget, _⟩ := I.pin (a, oe) (List.mem_append_left _ List.mem_cons_self)
  obtain ⟨vs, hv⟩ := hf
  obtain ⟨mA, hns, _⟩ := (show ObjOk X.prog X.w H s.heap dd (.xd fs) from I.hok dd _ hx)
  obtain ⟨od, ho, _⟩ := lookIn_ns hns
  have J : PySem.W.InstAt s.heap a oe D (some od) := ⟨hget, hz.1, by (unfold PySem.W.notCls; rw [hv]), by (rw [hz.2]; exact ho)⟩
  have cl : (PySem.W.clsIn X.K D).isSome = true := by
    obtain ⟨cd, hc, _⟩ := PySem.W.any_some T.hd
    rw [hc]
    rfl
  exact PySem.W.kia_one (PySem.W.kitx_exc cl T.hg T.hk T.hs T.ha T.hn T.ht T.hm) I.kIn J e (fun z => nomatch z) fun tk => ⟨.bl b, H, I.kept (t' := tk) fun _ _ z => z, rfl, q⟩

/-! ### promises that hold where no repr is under way -/
structure GFn (P : Program) (w : World) (K : PySem.W.Frag) (mg : Str → Option Value) (base : Heap) (k : Nat) (f : Addr) (fd : FuncData) (ps : List Str) (sp : Sp) : Prop where
  len : ∀ vs H Q E, sp vs H Q E → vs.length = ps.length
  go : ∀ {A : Around} {outer : List Env} {s : Shared} {H : Hp} {us : List Value} {vs : List V} {Q : VK}, A.guards = some [] → Room k A → Env0 P w K mg base A outer s H → BindsTo s fd ⟨us, []⟩ (ps.zip us) → Vals vs us → sp vs H Q E0 →
    codeAny (model P w) A (.call (.ref f) ⟨us, []⟩) (CR CX0 outer P w H s Q E0) s
section
variable {P : Program} {w : World} {K : PySem.W.Frag} {mg : Str → Option Value} {base : Heap}
theorem gfn_of {x qual : Str} {st : Stmt} {f : Addr} {fd : FuncData} {N ps : List Str} {k : Nat} {sp : Sp} (FN : Fun K x qual st f fd) (S : FnScope N ps (defScope st)) (len : ∀ vs H Q E, sp vs H Q E → vs.length = ps.length)
    (body : ∀ (cdv : Value) (A : Around) (outer : List Env) (s : Shared) (H : Hp) (vs : List V) (Q : VK), A.guards = some [] → Room k (A.deeper (envOfC qual (defScope st) s.heap.objs.size f cdv)) → sp vs H Q E0 →
      ∃ t, PSs (cxOf CX0 P w K mg base N qual (defScope st) f cdv A outer s H E0).nox (defBody st) t ∧ t { nx := fun _ H' => Q .non H', rt := Q } (start N vs) H) : GFn P w K mg base (k + 1) f fd ps sp := by
  obtain ⟨oc, od, kV, doc, pm, an, cdv, ct, osl, rfl, lk, hcd⟩ := FN.ex
  refine ⟨len, fun {A outer s H us vs Q} hg hr e0 hb r hsp => ?_⟩
  have old : ∀ b o, base.get? b = some o → s.heap.get? b = some o := fun b o e => (e0.bs b o e).1
  have KX : K.In s.heap := e0.mod.kin.keeps old
  have noL : s.heap.NoLimit := e0.mod.nolimit.keeps old
  obtain ⟨t, ht, hq⟩ := body cdv A outer s H vs Q hg (hr.deeper _) hsp
  refine codeAny_call_function hr.depth (KX _ _ lk) rfl S.co S.gen rfl (PySem.W.codeRec_of KX hcd) (hb _ _ _ _ ?_)
  refine wpAny_newFunctionEnv_cells S.kind (fun y hy => ?_) fun env he s1 ic => ?_
  · obtain ⟨n, v⟩ := y
    exact (S.par n (List.of_mem_zip hy).1).imp_right fun c => ⟨c, PySem.W.cellsFrom_some _ _ _ (.inl c)⟩
  · subst he
    refine ⟨noL.keeps ic.toInCall.keep, codeAny_func ?_⟩
    have I := inv_start (CX := CX0) (mg := mg) (base := base) (E := E0) S hr.hd e0 (len _ _ _ _ hsp) r ic
    refine wpAny_mono ((ht.nox).run [] s1 (start N vs) H _ I hq) (fun fl s' hs => ?_) fun e s' hs => hs
    have out : ∀ {σ' : L2.St} {H' : Hp} {v : V} {u : Value}, Inv (cxOf CX0 P w K mg base N qual (defScope st) f cdv A outer s H E0) [] σ' H' s' → RelV v u → Q v H' → CE outer P w H s Q u s' := fun J rv q => ⟨_, _, J.os, J.bare, J.base, J.hok, rv, q⟩
    cases fl with
    | ret u =>
      obtain ⟨v, σ', H', J, rv, q⟩ := hs
      exact out J rv q
    | next =>
      obtain ⟨σ', H', J, q⟩ := hs
      exact out (v := V.non) (u := Value.none) J rfl q
    | brk =>
      obtain ⟨_, _, _, q⟩ := hs
      exact False.elim q
    | cont =>
      obtain ⟨_, _, _, q⟩ := hs
      exact False.elim q
end
/-- f(e, ..) of such a def -/
theorem pe_callG {X : Cx} {k : Nat} {f : Addr} {fd : FuncData} {ps : List Str} {sp : Sp} {x : Str} {p pos : Pos} {e : Expr} {es : List Expr} {t : TA} (F : GFn X.prog X.w X.K X.mg X.base k f fd ps sp) (hgd : X.A.guards = some []) (hr : Room k X.A) (hg : Gl X x)
    (hm : X.mg x = some (.ref f)) (hk : PySem.W.keepIn X.K (.ref f) = true) (hb : Binds X.K fd ps []) (ha : PA X (e :: es) t) (hdb : (x == ("__debug__" : Str)) = false := by decide)
    (he : starEach (e :: es) X.env = (false, eval e X.env) :: starEach es X.env := by rfl) (hpl : (backTo pos (starEach es X.env)).any (·.1) = false := by rfl) :
    PE X (.Call (.Name x p) (e :: es) [] pos) (fun σ H Q => t σ H fun vs H1 => sp vs H1 Q E0) :=
  ⟨fun pins s σ H Q I h => wpAny_Call_Name_kw (ld_glob I hg hm (PySem.W.callWith_K (h₀ := X.base) I.ok.mod.kin hk (thn (ha.run pos pins s σ H _ I h) fun us s1 hh => by
    obtain ⟨vs, H1, I1, r, q⟩ := hh
    refine ⟨I1.kIn, ?_⟩
    have hl : us.length = ps.length := r.length.symm.trans (F.len _ _ _ _ q)
    have hb' := hb s1 us I1.kIn (by rw [List.append_nil]; exact hl)
    rw [List.append_nil] at hb'
    refine wpAny_call (codeAny_mono (F.go hgd hr I1.env0 hb' r q) fun res s' hq => ?_)
    rcases res with er | fl
    · exact False.elim hq
    · rcases fl with _ | _ | _ | u
      all_goals first | exact I1.after hq | exact False.elim hq) he hpl) hdb)⟩
end NR

set_option Elab.async false
set_option linter.all false
set_option maxRecDepth 100000
set_option maxHeartbeats 4000000
/-! The mathematics: primes, shapes, data as PyData, its text's length, equality of data. No program here. -/
namespace ND
open PySem PySem.Spec PyProof.Rows L2

/-! ### primes -/
def noDiv (i : Int) (n : Nat) : Bool := (List.range n).all fun j => decide (¬ i % (2 + (j : Int)) = 0)
def primeB (i : Int) : Bool := if 2 ≤ i ∧ i ≤ 97 then noDiv i (i - 2).toNat else false
def primes : List Int := [2, 3, 5, 7, 11, 13, 17, 19, 23, 29, 31, 37, 41, 43, 47, 53, 59, 61, 67, 71, 73, 79, 83, 89, 97]
theorem primes_ok : ∀ p ∈ primes, primeB p = true ∧ 2 ≤ p ∧ p ≤ 97 := by decide +kernel
theorem noDiv_succ {i : Int} {n : Nat} : noDiv i (n + 1) = (noDiv i n && decide (¬ i % (2 + (n : Int)) = 0)) := by
  unfold noDiv
  rw [List.range_succ, List.all_append]
  simp
theorem noDiv_false {i : Int} {n m : Nat} (h : i % (2 + (n : Int)) = 0) (hm : n < m) : noDiv i m = false := by
  unfold noDiv
  rw [List.all_eq_false]
  exact ⟨n, List.mem_range.mpr hm, by simp [h]⟩

/-! ### what is no prime -/
def oddD : List PyData := [.none, .bool true, .int (-1), .str "0", .tuple [], .list [], .int (10 ^ 30), .str "", .tuple [.int 1], .list [.int 0], .bool false,
  .int 0, .int 1, .int 4, .int 9, .int 91, .int 95, .int 98, .int 101, .int (10 ^ 20), .int (-7), .int (-2), .int 49, .int 77, .int 6]
def goodD (d : PyData) : Bool := d.showable && !d.hasDict && decide (d.depth ≤ 50) && decide (d.shown.length ≤ 1000) && (match d with | .int i => !primeB i | _ => true)
theorem odd_good : oddD.all goodD = true := by decide +kernel
theorem good_of {d : PyData} (h : d ∈ oddD) : d.showable = true ∧ d.hasDict = false ∧ d.depth ≤ 50 ∧ d.shown.length ≤ sizeLine ∧ ∀ i, d = .int i → primeB i = false := by
  have g := List.all_eq_true.mp odd_good d h
  unfold goodD at g
  simp only [Bool.and_eq_true, decide_eq_true_eq, Bool.not_eq_true'] at g
  obtain ⟨⟨⟨⟨g1, g2⟩, g3⟩, g4⟩, g5⟩ := g
  refine ⟨g1, g2, g3, by rw [sizeLine_eq]; omega, fun i e => ?_⟩
  subst e
  simpa using g5

/-! ### the data of a net -/
abbrev Rw := List Int
abbrev Mat := List Rw
def dRow (r : Rw) : PyData := .tuple (r.map .int)
def dMat (m : Mat) : PyData := .tuple (m.map dRow)
def dWs (W : List Mat) : PyData := .tuple (W.map dMat)
def dKs (ks : List Str) : PyData := .tuple (ks.map .str)
/-- the three parts in a list, as the law shows them; in a tuple, as the net compares them -/
def dTri (p : Int) (W : List Mat) (ks : List Str) : PyData := .list [.int p, dWs W, dKs ks]
def dTup (p : Int) (W : List Mat) (ks : List Str) : PyData := .tuple [.int p, dWs W, dKs ks]

structure Shape (p : Int) (W : List Mat) (ks : List Str) : Prop where
  prime : p ∈ primes
  some1 : 1 ≤ W.length
  most : W.length ≤ 6
  wide : ∃ w : Nat, 1 ≤ w ∧ w ≤ 3 ∧ ∀ m ∈ W, m.length = w ∧ ∀ r ∈ m, r.length = w ∧ ∀ x ∈ r, 0 ≤ x ∧ x < p
  kinds : ks.length = W.length ∧ ∀ k ∈ ks, k = ("line" : Str) ∨ k = ("square" : Str)

/-! ### how long a text is -/
theorem piled_le {B : Nat} : ∀ {ts : List Str}, (∀ t ∈ ts, t.length ≤ B) → piled ts ≤ ts.length * (B + 2)
  | [], _ => by simp [piled_nil]
  | t :: r, h => by
    have h1 := h t List.mem_cons_self
    have h2 := piled_le (ts := r) fun u hu => h u (List.mem_cons_of_mem _ hu)
    rw [piled_cons, List.length_cons, Nat.succ_mul]
    omega
theorem list_len {ts : List Str} : (listText ts).length ≤ piled ts + 3 := by
  unfold listText
  cases ts with
  | nil => decide +kernel
  | cons t r =>
    have e : textFrom 0 "[" (t :: r) = textFrom 1 (("[" : Str) ++ (if (0 : Nat) > 0 then ", " else "" : String) ++ t) r := rfl
    rw [strLen_append, e, textFrom_length_pos r 1 _ (by omega), strLen_append, strLen_append, piled_cons]
    have a1 : (("[" : String) : Str).length = 1 := rfl
    have a2 : (("]" : String) : Str).length = 1 := rfl
    have a3 : (((if (0 : Nat) > 0 then ", " else "" : String)) : Str).length = 0 := rfl
    omega
theorem tuple_len {ts : List Str} : (tupleText ts).length ≤ piled ts + 3 := by
  unfold tupleText
  rw [strLen_append, strLen_append]
  have a1 : (("(" : String) : Str).length = 1 := rfl
  have a3 : (((if ts.length == 1 then ",)" else ")" : String) : Str)).length ≤ 2 := by split <;> decide
  by_cases h : ts = []
  · subst h
    have : (Str.join (", " : String) []).length = 0 := rfl
    simp only [piled_nil]
    omega
  · have := join_length_add ts h
    omega
theorem small_shown : ∀ n : Fin 100, (PyData.shown (.int (n.val : Int))).length ≤ 2 := by decide +kernel
theorem int_shown {x : Int} (h0 : 0 ≤ x) (h1 : x < 100) : (PyData.shown (.int x)).length ≤ 2 := by
  have q := small_shown ⟨x.toNat, by omega⟩
  have e : ((x.toNat : Nat) : Int) = x := by omega
  simp only [e] at q
  exact q
theorem shownAll_map {α : Type} (f : α → PyData) : ∀ l : List α, PyData.shownAll (l.map f) = l.map fun a => (f a).shown
  | [] => by simp [PyData.shownAll]
  | a :: r => by simp [PyData.shownAll, shownAll_map f r]
theorem tuple_shown {α : Type} {f : α → PyData} {l : List α} {n B : Nat} (hl : l.length ≤ n) (h : ∀ a ∈ l, (f a).shown.length ≤ B) : (PyData.shown (.tuple (l.map f))).length ≤ n * (B + 2) + 3 := by
  simp only [PyData.shown, shownAll_map]
  have h1 := tuple_len (ts := l.map fun a => (f a).shown)
  have h2 := piled_le (B := B) (ts := l.map fun a => (f a).shown) (fun t ht => by
    obtain ⟨a, ha, e⟩ := List.mem_map.mp ht
    rw [← e]
    exact h a ha)
  rw [List.length_map] at h2
  have h3 : l.length * (B + 2) ≤ n * (B + 2) := Nat.mul_le_mul_right _ hl
  omega
theorem line_shown : (PyData.shown (.str "line")).length ≤ 10 := by decide +kernel
theorem square_shown : (PyData.shown (.str "square")).length ≤ 10 := by decide +kernel
section
variable {p : Int} {W : List Mat} {ks : List Str}
theorem Shape.p_lt (S : Shape p W ks) : 2 ≤ p ∧ p ≤ 97 := (primes_ok p S.prime).2
theorem row_shown {r : Rw} (hl : r.length ≤ 3) (h : ∀ x ∈ r, 0 ≤ x ∧ x < 100) : (dRow r).shown.length ≤ 15 := by
  have := tuple_shown (f := PyData.int) (n := 3) (B := 2) hl fun x hx => int_shown (h x hx).1 (h x hx).2
  exact this
theorem mat_shown {m : Mat} (hl : m.length ≤ 3) (h : ∀ r ∈ m, r.length ≤ 3 ∧ ∀ x ∈ r, 0 ≤ x ∧ x < 100) : (dMat m).shown.length ≤ 54 := by
  have := tuple_shown (f := dRow) (n := 3) (B := 15) hl fun r hr => row_shown (h r hr).1 (h r hr).2
  exact this
theorem Shape.rows (S : Shape p W ks) : ∀ m ∈ W, m.length ≤ 3 ∧ ∀ r ∈ m, r.length ≤ 3 ∧ ∀ x ∈ r, 0 ≤ x ∧ x < 100 := fun m hm => by
  obtain ⟨w, w1, w3, hW⟩ := S.wide
  have hp := S.p_lt
  obtain ⟨h1, h2⟩ := hW m hm
  exact ⟨by omega, fun r hr => ⟨by have := (h2 r hr).1; omega, fun x hx => by have := (h2 r hr).2 x hx; omega⟩⟩
theorem Shape.ws_shown (S : Shape p W ks) : (dWs W).shown.length ≤ 339 := by
  have := tuple_shown (f := dMat) (n := 6) (B := 54) S.most fun m hm => mat_shown (S.rows m hm).1 (S.rows m hm).2
  exact this
theorem Shape.ks_shown (S : Shape p W ks) : (dKs ks).shown.length ≤ 75 := by
  have := tuple_shown (f := PyData.str) (l := ks) (n := 6) (B := 10) (by have := S.kinds.1; have := S.most; omega) fun k hk => by
    rcases S.kinds.2 k hk with e | e
    · rw [e]
      exact line_shown
    · rw [e]
      exact square_shown
  exact this
theorem Shape.shown (S : Shape p W ks) : (dTri p W ks).shown.length ≤ sizeLine := by
  have h1 := S.ws_shown
  have h2 := S.ks_shown
  have hp := S.p_lt
  have h3 := int_shown (x := p) (by omega) (by omega)
  have e : (dTri p W ks).shown = listText [PyData.shown (.int p), (dWs W).shown, (dKs ks).shown] := by simp [dTri, PyData.shown, PyData.shownAll]
  have h4 := list_len (ts := [PyData.shown (.int p), (dWs W).shown, (dKs ks).shown])
  rw [piled_cons, piled_cons, piled_cons, piled_nil] at h4
  rw [e, sizeLine_eq]
  omega
/-- two small numbers in a list -/
theorem two_shown {a b : Int} (a0 : 0 ≤ a) (a1 : a < 100) (b0 : 0 ≤ b) (b1 : b < 100) : (PyData.shown (.list [.int a, .int b])).length ≤ sizeLine := by
  have h1 := int_shown a0 a1
  have h2 := int_shown b0 b1
  have e : PyData.shown (.list [.int a, .int b]) = listText [PyData.shown (.int a), PyData.shown (.int b)] := by simp [PyData.shown, PyData.shownAll]
  have h4 := list_len (ts := [PyData.shown (.int a), PyData.shown (.int b)])
  rw [piled_cons, piled_cons, piled_nil] at h4
  rw [e, sizeLine_eq]
  omega

/-! ### the other looks at data -/
theorem showableAll_map {α : Type} {f : α → PyData} : ∀ {l : List α}, (∀ a ∈ l, (f a).showable = true) → PyData.showableAll (l.map f) = true
  | [], _ => by simp [PyData.showableAll]
  | a :: r, h => by simp [PyData.showableAll, h a List.mem_cons_self, showableAll_map (l := r) fun b hb => h b (List.mem_cons_of_mem _ hb)]
theorem hasDictAll_map {α : Type} {f : α → PyData} : ∀ {l : List α}, (∀ a ∈ l, (f a).hasDict = false) → PyData.hasDictAll (l.map f) = false
  | [], _ => by simp [PyData.hasDictAll]
  | a :: r, h => by simp [PyData.hasDictAll, h a List.mem_cons_self, hasDictAll_map (l := r) fun b hb => h b (List.mem_cons_of_mem _ hb)]
theorem canLayAll_map {α : Type} {f : α → PyData} : ∀ {l : List α}, (∀ a ∈ l, (f a).canLay0 = true) → PyData.canLayAll0 (l.map f) = true
  | [], _ => by simp [PyData.canLayAll0]
  | a :: r, h => by simp [PyData.canLayAll0, h a List.mem_cons_self, canLayAll_map (l := r) fun b hb => h b (List.mem_cons_of_mem _ hb)]
theorem depthAll_map {α : Type} {f : α → PyData} {n : Nat} : ∀ {l : List α}, (∀ a ∈ l, (f a).depth ≤ n) → PyData.depthAll (l.map f) ≤ n
  | [], _ => by simp [PyData.depthAll]
  | a :: r, h => by
    have h1 := h a List.mem_cons_self
    have h2 := depthAll_map (l := r) fun b hb => h b (List.mem_cons_of_mem _ hb)
    simp only [List.map_cons, PyData.depthAll]
    exact Nat.max_le.mpr ⟨h1, h2⟩
theorem row_depth (r : Rw) : (dRow r).depth ≤ 1 := by
  have := depthAll_map (f := PyData.int) (n := 0) (l := r) fun a _ => by simp [PyData.depth]
  simp only [dRow, PyData.depth]
  omega
theorem mat_depth (m : Mat) : (dMat m).depth ≤ 2 := by
  have := depthAll_map (f := dRow) (n := 1) (l := m) fun a _ => row_depth a
  simp only [dMat, PyData.depth]
  omega
theorem ws_depth (W : List Mat) : (dWs W).depth ≤ 3 := by
  have := depthAll_map (f := dMat) (n := 2) (l := W) fun a _ => mat_depth a
  simp only [dWs, PyData.depth]
  omega
theorem ks_depth (ks : List Str) : (dKs ks).depth ≤ 1 := by
  have := depthAll_map (f := PyData.str) (n := 0) (l := ks) fun a _ => by simp [PyData.depth]
  simp only [dKs, PyData.depth]
  omega
theorem tri_depth (p : Int) (W : List Mat) (ks : List Str) : (dTri p W ks).depth ≤ 4 ∧ (dTup p W ks).depth ≤ 4 := by
  have h1 := ws_depth W
  have h2 := ks_depth ks
  simp only [dTri, dTup, PyData.depth, PyData.depthAll]
  omega
theorem ws_hasDict (W : List Mat) : (dWs W).hasDict = false := by
  simp only [dWs, PyData.hasDict]
  refine hasDictAll_map fun m _ => ?_
  simp only [dMat, PyData.hasDict]
  refine hasDictAll_map fun r _ => ?_
  simp only [dRow, PyData.hasDict]
  exact hasDictAll_map fun x _ => by simp [PyData.hasDict]
theorem ks_hasDict (ks : List Str) : (dKs ks).hasDict = false := by
  simp only [dKs, PyData.hasDict]
  exact hasDictAll_map fun x _ => by simp [PyData.hasDict]
theorem tri_hasDict (p : Int) (W : List Mat) (ks : List Str) : (dTri p W ks).hasDict = false := by
  simp [dTri, PyData.hasDict, PyData.hasDictAll, ws_hasDict, ks_hasDict]
theorem int_showable {x : Int} (h : x.natAbs < 1000) : (PyData.int x).showable = true := by
  simp only [PyData.showable, decide_eq_true_eq]
  by_cases hx : x.natAbs = 0
  · rw [hx]
    decide
  · exact Nat.lt_trans ((Nat.log2_lt hx).mpr (show x.natAbs < 2 ^ 10 by omega)) (by decide)
theorem Shape.showable (S : Shape p W ks) : (dTri p W ks).showable = true := by
  have hp := S.p_lt
  have h1 : (dWs W).showable = true := by
    simp only [dWs, PyData.showable]
    refine showableAll_map fun m hm => ?_
    simp only [dMat, PyData.showable]
    refine showableAll_map fun r hr => ?_
    simp only [dRow, PyData.showable]
    refine showableAll_map fun x hx => int_showable ?_
    have := ((S.rows m hm).2 r hr).2 x hx
    omega
  have h2 : (dKs ks).showable = true := by
    simp only [dKs, PyData.showable]
    exact showableAll_map fun x _ => by simp [PyData.showable]
  have h3 := int_showable (x := p) (by omega)
  simp [dTri, PyData.showable, PyData.showableAll, h1, h2]
  simpa [PyData.showable] using h3
theorem line_ok : (PyData.str "line").canLay0 = true := by decide +kernel
theorem square_ok : (PyData.str "square").canLay0 = true := by decide +kernel
theorem Shape.shaped (S : Shape p W ks) : SeqAt.shaped (dTup p W ks) = true := by
  have h1 : (dWs W).canLay0 = true := by
    simp only [dWs, PyData.canLay0]
    refine canLayAll_map fun m hm => ?_
    simp only [dMat, PyData.canLay0]
    refine canLayAll_map fun r hr => ?_
    simp only [dRow, PyData.canLay0]
    exact canLayAll_map fun x hx => by simp [PyData.canLay0]
  have h2 : (dKs ks).canLay0 = true := by
    simp only [dKs, PyData.canLay0]
    refine canLayAll_map fun k hk => ?_
    rcases S.kinds.2 k hk with e | e
    · rw [e]
      exact line_ok
    · rw [e]
      exact square_ok
  have h3 := (tri_depth p W ks).2
  unfold SeqAt.shaped
  rw [Bool.and_eq_true, decide_eq_true_eq]
  refine ⟨?_, by omega⟩
  simp [dTup, PyData.canLay0, PyData.canLayAll0, h1, h2]

/-! ### equality of data -/
theorem eqvAll_map {α : Type} [DecidableEq α] {f : α → PyData} (h : ∀ a b, PyData.eqv (f a) (f b) = decide (a = b)) : ∀ l m : List α, PyData.eqvAll (l.map f) (m.map f) = decide (l = m)
  | [], [] => by simp [PyData.eqvAll]
  | [], b :: m => by simp [PyData.eqvAll]
  | a :: l, [] => by simp [PyData.eqvAll]
  | a :: l, b :: m => by
    simp only [List.map_cons, PyData.eqvAll, h, eqvAll_map h l m, List.cons.injEq]
    by_cases h1 : a = b <;> by_cases h2 : l = m <;> simp [h1, h2]
theorem eqv_tri (p q : Int) (W Z : List Mat) (ks js : List Str) : PyData.eqv (dTup p W ks) (dTup q Z js) = decide (p = q ∧ W = Z ∧ ks = js) := by
  have hr : ∀ a b, PyData.eqv (dRow a) (dRow b) = decide (a = b) := fun a b => by
    simp only [dRow, PyData.eqv]
    exact eqvAll_map (fun x y => by simp only [PyData.eqv]; by_cases h : x = y <;> simp [h]) a b
  have hm : ∀ a b, PyData.eqv (dMat a) (dMat b) = decide (a = b) := fun a b => by
    simp only [dMat, PyData.eqv]
    exact eqvAll_map hr a b
  have hW : PyData.eqv (dWs W) (dWs Z) = decide (W = Z) := by
    simp only [dWs, PyData.eqv]
    exact eqvAll_map hm W Z
  have hk : PyData.eqv (dKs ks) (dKs js) = decide (ks = js) := by
    simp only [dKs, PyData.eqv]
    exact eqvAll_map (fun x y => by simp only [PyData.eqv]; by_cases h : x = y <;> simp [h]) ks js
  simp only [dTup, PyData.eqv, PyData.eqvAll, hW, hk]
  by_cases h1 : p = q <;> by_cases h2 : W = Z <;> by_cases h3 : ks = js <;> simp [h1, h2, h3]
end
end ND

set_option Elab.async false
set_option linter.all false
set_option maxRecDepth 100000
set_option maxHeartbeats 4000000
/-! The text by places, the data in the abstract heap, what each def promises. -/
namespace NH
open PySem PySem.Spec PyProof.Rows L2 ND NR

/-! ### the text by places -/
def top (i : Nat) : Stmt := PySem.Challenge.pw_stagesfull_k02_nets.main.body.getD i (.Pass ⟨0, 0, 0, 0⟩)
abbrev sXInit : Stmt := inClass (top 2) 0
abbrev sBetween : Stmt := top 5
abbrev sPrime : Stmt := top 6
abbrev sAsM : Stmt := top 7
abbrev sNInit : Stmt := inClass (top 8) 0
abbrev sWidth : Stmt := inClass (top 8) 1
abbrev sLen : Stmt := inClass (top 8) 2
abbrev sEq : Stmt := inClass (top 8) 3
abbrev sDraws : Stmt := top 10
abbrev sTake : Stmt := top 11
abbrev sOdd : Stmt := top 12
abbrev sLPrime : Stmt := top 13
abbrev sVec : Stmt := top 14
abbrev sNet : Stmt := top 15
abbrev sIs : Stmt := top 16
abbrev sRef : Stmt := top 17
abbrev sOther : Stmt := top 18
abbrev sLike : Stmt := top 19
abbrev sLaw : Stmt := top 20

/-! ### pairs of lists -/
theorem pr_len {α β : Type} {F : α → β → Prop} : ∀ {l : List α} {m : List β}, Paired F l m → l.length = m.length
  | _, _, .nil => rfl
  | _, _, .cons _ t => congrArg Nat.succ (pr_len t)
theorem pr_get {α β : Type} {F : α → β → Prop} : ∀ {l : List α} {m : List β} {i : Nat} {y : β}, Paired F l m → m[i]? = some y → ∃ x, l[i]? = some x ∧ F x y
  | _, _, _, _, .nil, e => by simp at e
  | _, _, 0, _, .cons r _, e => by
    simp at e
    subst e
    exact ⟨_, rfl, r⟩
  | _, _, i + 1, y, .cons _ t, e => by
    obtain ⟨x, h1, h2⟩ := pr_get (i := i) (y := y) t (by simpa using e)
    exact ⟨x, by simpa using h1, h2⟩
theorem pr_get' {α β : Type} {F : α → β → Prop} : ∀ {l : List α} {m : List β} {i : Nat} {x : α}, Paired F l m → l[i]? = some x → ∃ y, m[i]? = some y ∧ F x y
  | _, _, _, _, .nil, e => by simp at e
  | _, _, 0, _, .cons r _, e => by
    simp at e
    subst e
    exact ⟨_, rfl, r⟩
  | _, _, i + 1, x, .cons _ t, e => by
    obtain ⟨y, h1, h2⟩ := pr_get' (i := i) (x := x) t (by simpa using e)
    exact ⟨y, by simpa using h1, h2⟩
theorem pr_mono {α β : Type} {F G : α → β → Prop} : ∀ {l : List α} {m : List β}, (∀ a b, F a b → G a b) → Paired F l m → Paired G l m
  | _, _, _, .nil => .nil
  | _, _, h, .cons r t => .cons (h _ _ r) (pr_mono h t)
theorem pr_snoc {α β : Type} {F : α → β → Prop} {a : α} {b : β} (h : F a b) : ∀ {l : List α} {m : List β}, Paired F l m → Paired F (l ++ [a]) (m ++ [b])
  | _, _, .nil => .cons h .nil
  | _, _, .cons r t => .cons r (pr_snoc h t)
theorem pr_app {α β : Type} {F : α → β → Prop} {l' : List α} {m' : List β} (h : Paired F l' m') : ∀ {l : List α} {m : List β}, Paired F l m → Paired F (l ++ l') (m ++ m')
  | _, _, .nil => h
  | _, _, .cons r t => .cons r (pr_app h t)
theorem pr_take {α β : Type} {F : α → β → Prop} : ∀ {l : List α} {m : List β} (n : Nat), Paired F l m → Paired F (l.take n) (m.take n)
  | _, _, 0, _ => .nil
  | _, _, _ + 1, .nil => .nil
  | _, _, n + 1, .cons r t => .cons r (pr_take n t)
theorem pr_drop {α β : Type} {F : α → β → Prop} : ∀ {l : List α} {m : List β} (n : Nat), Paired F l m → Paired F (l.drop n) (m.drop n)
  | _, _, 0, h => h
  | _, _, _ + 1, .nil => .nil
  | _, _, n + 1, .cons _ t => pr_drop n t

/-! ### data in the heap -/
/-- a list or a tuple -/
def Sq (H : Hp) (a : Addr) (xs : List V) : Prop := H a = some (.tup xs) ∨ H a = some (.lst xs)
def RowS (H : Hp) (v : V) (r : Rw) : Prop := ∃ a, v = .ref a ∧ Sq H a (r.map .int)
def MatS (H : Hp) (v : V) (m : Mat) : Prop := ∃ a vs, v = .ref a ∧ Sq H a vs ∧ Paired (RowS H) vs m
def WsS (H : Hp) (v : V) (W : List Mat) : Prop := ∃ a vs, v = .ref a ∧ Sq H a vs ∧ Paired (MatS H) vs W
def KsS (H : Hp) (v : V) (ks : List Str) : Prop := ∃ a, v = .ref a ∧ Sq H a (ks.map .str)
/-- tuples throughout -/
def RowT (H : Hp) (v : V) (r : Rw) : Prop := ∃ a, v = .ref a ∧ H a = some (.tup (r.map .int))
def MatT (H : Hp) (v : V) (m : Mat) : Prop := ∃ a vs, v = .ref a ∧ H a = some (.tup vs) ∧ Paired (RowT H) vs m
def WsT (H : Hp) (v : V) (W : List Mat) : Prop := ∃ a vs, v = .ref a ∧ H a = some (.tup vs) ∧ Paired (MatT H) vs W
def KsT (H : Hp) (v : V) (ks : List Str) : Prop := ∃ a, v = .ref a ∧ H a = some (.tup (ks.map .str))
/-- what the law calls own: a tuple of prime, weights, kinds -/
def Own (H : Hp) (a : Addr) (p : Int) (W : List Mat) (ks : List Str) : Prop := ∃ w k, H a = some (.tup [.int p, w, k]) ∧ WsT H w W ∧ KsT H k ks
def flds (p : Int) (w k : V) : List (Str × V) := putF "kinds" k (putF "weights" w (putF "prime" (.int p) []))
def NetAt (C : Addr) (H : Hp) (x : Addr) (p : Int) (W : List Mat) (ks : List Str) : Prop := ∃ dx w k, H x = some (.ins C dx (flds p w k)) ∧ WsT H w W ∧ KsT H k ks
/-- the tuples stand -/
def Tk (H H' : Hp) : Prop := ∀ a xs, H a = some (.tup xs) → H' a = some (.tup xs)
theorem Tk.of {H H' : Hp} (h : Same H H') : Tk H H' := fun a xs e => h a _ e
theorem Tk.refl (H : Hp) : Tk H H := fun _ _ e => e
theorem Tk.trans {H H1 H2 : Hp} (a : Tk H H1) (b : Tk H1 H2) : Tk H H2 := fun c xs e => b c xs (a c xs e)
section
variable {H H' : Hp} {v : V} {a x C : Addr} {p : Int} {r : Rw} {m : Mat} {W : List Mat} {ks : List Str}
theorem RowT.mono (t : Tk H H') (h : RowT H v r) : RowT H' v r := let ⟨a, e, q⟩ := h; ⟨a, e, t _ _ q⟩
theorem MatT.mono (t : Tk H H') (h : MatT H v m) : MatT H' v m := let ⟨a, vs, e, q, z⟩ := h; ⟨a, vs, e, t _ _ q, pr_mono (fun _ _ => RowT.mono t) z⟩
theorem WsT.mono (t : Tk H H') (h : WsT H v W) : WsT H' v W := let ⟨a, vs, e, q, z⟩ := h; ⟨a, vs, e, t _ _ q, pr_mono (fun _ _ => MatT.mono t) z⟩
theorem KsT.mono (t : Tk H H') (h : KsT H v ks) : KsT H' v ks := let ⟨a, e, q⟩ := h; ⟨a, e, t _ _ q⟩
theorem Own.mono (t : Tk H H') (h : Own H a p W ks) : Own H' a p W ks := let ⟨w, k, q, h1, h2⟩ := h; ⟨w, k, t _ _ q, h1.mono t, h2.mono t⟩
theorem NetAt.mono (t : Tk H H') (hx : ∀ o, H x = some o → H' x = some o) (h : NetAt C H x p W ks) : NetAt C H' x p W ks := let ⟨dx, w, k, q, h1, h2⟩ := h; ⟨dx, w, k, hx _ q, h1.mono t, h2.mono t⟩
theorem Sq.mono (s : Same H H') {xs : List V} (h : Sq H a xs) : Sq H' a xs := h.imp (s _ _) (s _ _)
theorem RowS.mono (s : Same H H') (h : RowS H v r) : RowS H' v r := let ⟨a, e, q⟩ := h; ⟨a, e, q.mono s⟩
theorem MatS.mono (s : Same H H') (h : MatS H v m) : MatS H' v m := let ⟨a, vs, e, q, z⟩ := h; ⟨a, vs, e, q.mono s, pr_mono (fun _ _ => RowS.mono s) z⟩
theorem WsS.mono (s : Same H H') (h : WsS H v W) : WsS H' v W := let ⟨a, vs, e, q, z⟩ := h; ⟨a, vs, e, q.mono s, pr_mono (fun _ _ => MatS.mono s) z⟩
theorem KsS.mono (s : Same H H') (h : KsS H v ks) : KsS H' v ks := let ⟨a, e, q⟩ := h; ⟨a, e, q.mono s⟩
theorem RowT.s (h : RowT H v r) : RowS H v r := let ⟨a, e, q⟩ := h; ⟨a, e, .inl q⟩
theorem MatT.s (h : MatT H v m) : MatS H v m := let ⟨a, vs, e, q, z⟩ := h; ⟨a, vs, e, .inl q, pr_mono (fun _ _ => RowT.s) z⟩
theorem WsT.s (h : WsT H v W) : WsS H v W := let ⟨a, vs, e, q, z⟩ := h; ⟨a, vs, e, .inl q, pr_mono (fun _ _ => MatT.s) z⟩
theorem KsT.s (h : KsT H v ks) : KsS H v ks := let ⟨a, e, q⟩ := h; ⟨a, e, .inl q⟩
end
/-! ### as the layer's data -/
section
variable {K : PySem.W.Frag} {H : Hp} {v : V} {a x C : Addr} {p : Int} {r : Rw} {m : Mat} {W : List Mat} {ks : List Str}
theorem tupK {xs : List V} (h : H a = some (.tup xs)) : SqT K H a xs := .inl (.inl h)
theorem lstK {xs : List V} (h : H a = some (.lst xs)) : SqL K H a xs := .inl (.inl h)
theorem dp_all {α : Type} {F : V → α → Prop} {f : α → PyData} (h : ∀ v a, F v a → Dp K H v (f a)) : ∀ {vs : List V} {l : List α}, Paired F vs l → DpAll K H vs (l.map f)
  | _, _, .nil => .nil
  | _, _, .cons r t => .cons (h _ _ r) (dp_all h t)
theorem dp_ints : ∀ r : Rw, DpAll K H (r.map .int) (r.map .int)
  | [] => .nil
  | i :: r => .cons (.int i) (dp_ints r)
theorem dp_strs : ∀ r : List Str, DpAll K H (r.map .str) (r.map .str)
  | [] => .nil
  | i :: r => .cons (.str i) (dp_strs r)
theorem RowT.dp (h : RowT H v r) : Dp K H v (dRow r) := by
  obtain ⟨a, rfl, q⟩ := h
  exact .tup (tupK q) (dp_ints r)
theorem MatT.dp (h : MatT H v m) : Dp K H v (dMat m) := by
  obtain ⟨a, vs, rfl, q, z⟩ := h
  exact .tup (tupK q) (dp_all (f := dRow) (fun _ _ h => RowT.dp h) z)
theorem WsT.dp (h : WsT H v W) : Dp K H v (dWs W) := by
  obtain ⟨a, vs, rfl, q, z⟩ := h
  exact .tup (tupK q) (dp_all (f := dMat) (fun _ _ h => MatT.dp h) z)
theorem KsT.dp (h : KsT H v ks) : Dp K H v (dKs ks) := by
  obtain ⟨a, rfl, q⟩ := h
  exact .tup (tupK q) (dp_strs ks)
end
/-! ### a value that is no prime -/
inductive OddV (H : Hp) : V → PyData → Prop
  | non : OddV H .non .none
  | bl (b : Bool) : OddV H (.bl b) (.bool b)
  | int (i : Int) : OddV H (.int i) (.int i)
  | str (x : Str) : OddV H (.str x) (.str x)
  | tup {a : Addr} (ns : List Int) (h : H a = some (.tup (ns.map .int))) : OddV H (.ref a) (.tuple (ns.map .int))
  | lst {a : Addr} (ns : List Int) (h : H a = some (.lst (ns.map .int))) : OddV H (.ref a) (.list (ns.map .int))
theorem OddV.dp {K : PySem.W.Frag} {H : Hp} {v : V} {d : PyData} (h : OddV H v d) : Dp K H v d := by
  cases h with
  | non => exact .non
  | bl b => exact .bl b
  | int i => exact .int i
  | str x => exact .str x
  | tup ns h => exact .tup (tupK h) (dp_ints ns)
  | lst ns h => exact .lst (lstK h) (dp_ints ns)
/-! ### the hand: a list of draws, and which comes next -/
def Hand (h dr : Addr) (H : Hp) : Prop := ∃ (ds : List Int) (k : Nat), H h = some (.lst [.ref dr, .int (k : Int)]) ∧ H dr = some (.lst (ds.map .int))
/-- all but the hand is as it was -/
def But (h : Addr) (H H' : Hp) : Prop := ∀ b o, b ≠ h → H b = some o → H' b = some o
theorem But.refl (h : Addr) (H : Hp) : But h H H := fun _ _ _ e => e
theorem But.trans {h : Addr} {H H1 H2 : Hp} (a : But h H H1) (b : But h H1 H2) : But h H H2 := fun c o n e => b c o n (a c o n e)
theorem But.same {h : Addr} {H H' : Hp} (s : Same H H') : But h H H' := fun c o _ e => s c o e
theorem Hand.tk {h dr : Addr} {H H' : Hp} (z : Hand h dr H) (b : But h H H') : Tk H H' := fun a xs e => by
  obtain ⟨ds, k, e1, _⟩ := z
  exact b a _ (fun q => by subst q; rw [e1] at e; cases e) e
theorem Hand.same {h dr : Addr} {H H' : Hp} (z : Hand h dr H) (s : Same H H') : Hand h dr H' := by
  obtain ⟨ds, k, e1, e2⟩ := z
  exact ⟨ds, k, s _ _ e1, s _ _ e2⟩
theorem Hand.free {h dr : Addr} {H H' : Hp} (z : Hand h dr H) (b : But h H H') {l : Addr} (hl : H' l = none) (hh : ∃ o, H' h = some o) : H l = none := by
  cases q : H l with
  | none => rfl
  | some o =>
    have n : l ≠ h := fun e => by
      obtain ⟨u, hu⟩ := hh
      rw [e, hu] at hl
      cases hl
    rw [b l o n q] at hl
    cases hl
theorem Hand.odd {h dr : Addr} {H H' : Hp} (z : Hand h dr H) (b : But h H H') {v : V} {d : PyData} (o : OddV H v d) : OddV H' v d := by
  obtain ⟨ds, k, e1, _⟩ := z
  cases o with
  | non => exact .non
  | bl b => exact .bl b
  | int i => exact .int i
  | str x => exact .str x
  | tup ns q => exact .tup ns (b _ _ (fun e => by rw [e, e1] at q; cases q) q)
  | lst ns q =>
    refine .lst ns (b _ _ (fun e => ?_) q)
    rw [e, e1] at q
    have q' := HO.lst.inj (Option.some.inj q)
    cases ns with
    | nil => cases q'
    | cons i r => cases q'
theorem OddV.same {H H' : Hp} (s : Same H H') {v : V} {d : PyData} (o : OddV H v d) : OddV H' v d := by
  cases o with
  | non => exact .non
  | bl b => exact .bl b
  | int i => exact .int i
  | str x => exact .str x
  | tup ns q => exact .tup ns (s _ _ q)
  | lst ns q => exact .lst ns (s _ _ q)
/-- a change elsewhere -/
theorem Hand.upd {h dr a : Addr} {H : Hp} {o : HO} (z : Hand h dr H) (n1 : a ≠ h) (n2 : a ≠ dr) : Hand h dr (upd H a o) := by
  obtain ⟨ds, k, e1, e2⟩ := z
  exact ⟨ds, k, by rw [upd_ne n1.symm]; exact e1, by rw [upd_ne n2.symm]; exact e2⟩
theorem Hand.new {h dr a : Addr} {H : Hp} (z : Hand h dr H) (n : H a = none) : a ≠ h ∧ a ≠ dr := by
  obtain ⟨ds, k, e1, e2⟩ := z
  exact ⟨(ne_of_none e1 n).symm, (ne_of_none e2 n).symm⟩
theorem But.upd {h a : Addr} {H H1 : Hp} {o : HO} (b : But h H H1) (n : H a = none) : But h H (upd H1 a o) := fun c u hc e => by
  rw [upd_ne (ne_of_none e n)]
  exact b c u hc e
/-- a new object -/
theorem same_upd {H : Hp} {p : Addr} {o : HO} (h : H p = none) : Same H (upd H p o) := fun b u e => by
  rw [upd_ne (ne_of_none e h)]
  exact e

/-! ### promises -/
/-- InvalidNumber.__init__ -/
def spX (C : Addr) : Sp := fun vs H Q _ => ∃ (a : Addr) (v : V), vs = [.ref a, v] ∧ H a = some (exo a C none) ∧
  ∀ dx, H dx = none → dx ≠ a → Q .non (upd (upd H dx (exd dx [(("number" : Str), v)])) a (exo a C (some dx)))
def tyOk (v : V) : Prop := (∃ i, v = .int i) ∨ True
/-- is_between -/
def spBetween (K : PySem.W.Frag) : Sp := fun vs H Q _ => ∃ (v : V) (lo hi : Int), vs = [v, .int lo, .int hi] ∧
  ((∃ i, v = .int i ∧ Q (.bl (decide (lo ≤ i) && decide (i ≤ hi))) H) ∨ ((∃ d, OddV H v d ∧ ∀ i, d ≠ .int i) ∧ Q (.bl false) H))
/-- is_prime -/
def spPrime (K : PySem.W.Frag) : Sp := fun vs H Q _ => ∃ v : V, vs = [v] ∧
  ((∃ i, v = .int i ∧ Q (.bl (primeB i)) H) ∨ ((∃ d, OddV H v d ∧ ∀ i, d ≠ .int i) ∧ Q (.bl false) H))
/-- as_matrix -/
def spAsM : Sp := fun vs H Q _ => ∃ (v : V) (m : Mat), vs = [v] ∧ m.length ≤ 100 ∧ MatS H v m ∧ ∀ (u : V) H', Same H H' → MatT H' u m → Q u H'
/-- Net.__init__ -/
def spNI (C CX : Addr) : Sp := fun vs H Q E => ∃ (x dx : Addr) (pv wv kv : V) (W : List Mat) (ks : List Str), vs = [.ref x, pv, wv, kv] ∧ H x = some (.ins C dx []) ∧ H dx = some (.own x) ∧
  ((∃ p, pv = .int p ∧ primeB p = true ∧ W.length ≤ 100 ∧ (∀ m ∈ W, m.length ≤ 100) ∧ WsS H wv W ∧ KsS H kv ks ∧ ∀ H', (∀ b o, b ≠ x → H b = some o → H' b = some o) → NetAt C H' x p W ks → Q .non H') ∨
   (∃ d, OddV H pv d ∧ d ∈ oddD ∧ ∀ d' H', (∀ b o, b ≠ x → H b = some o → H' b = some o) → H' d' = some (.xd [(("number" : Str), pv)]) → E (.ref CX) (some d') H'))
/-- width, __len__ -/
def spWidth (C : Addr) : Sp := fun vs H Q _ => ∃ (x : Addr) (p : Int) (m : Mat) (W : List Mat) (ks : List Str), vs = [.ref x] ∧ NetAt C H x p (m :: W) ks ∧ Q (.int (m.length : Nat)) H
def spLen (C : Addr) : Sp := fun vs H Q _ => ∃ (x : Addr) (p : Int) (W : List Mat) (ks : List Str), vs = [.ref x] ∧ NetAt C H x p W ks ∧ Q (.int (W.length : Nat)) H
/-- __eq__ -/
def spEq (K : PySem.W.Frag) (C : Addr) : Sp := fun vs H Q _ => ∃ (x : Addr) (y : V) (p : Int) (W : List Mat) (ks : List Str), vs = [.ref x, y] ∧ NetAt C H x p W ks ∧ Shape p W ks ∧
  ((∃ (b : Addr) (q : Int) (Z : List Mat) (js : List Str), y = .ref b ∧ NetAt C H b q Z js ∧ Shape q Z js ∧ ∀ H', Same H H' → Q (.bl (decide (p = q ∧ W = Z ∧ ks = js))) H') ∨ (∃ t, TyX K H y t ∧ PySem.W.kitOne K t (.ref C) = some false ∧ Q (.bl false) H))
/-- _law_draws -/
def spDraws (K : PySem.W.Frag) : Sp := fun vs H Q _ => ∃ (a : Addr) (ns : List Int), vs = [.ref a, .int 120] ∧ SqL K H a (ns.map V.int) ∧ ns.length ≤ 63 ∧
  ∀ (l : Addr) (ds : List Int) H', Same H H' → H' l = some (.lst (ds.map .int)) → Q (.ref l) H'
/-- _law_take -/
def spTake : Sp := fun vs H Q _ => ∃ (h dr : Addr) (many : Int), vs = [.ref h, .int many] ∧ 1 ≤ many ∧ Hand h dr H ∧
  ∀ v H', 0 ≤ v → v < many → Hand h dr H' → But h H H' → Q (.int v) H'
def spOdd : Sp := fun vs H Q _ => ∃ h dr : Addr, vs = [.ref h] ∧ Hand h dr H ∧ ∀ v d H', OddV H' v d → d ∈ oddD → Hand h dr H' → But h H H' → Q v H'
def spLPrime : Sp := fun vs H Q _ => ∃ h dr : Addr, vs = [.ref h] ∧ Hand h dr H ∧ ∀ p H', p ∈ primes → Hand h dr H' → But h H H' → Q (.int p) H'
def spVec : Sp := fun vs H Q _ => ∃ (h dr : Addr) (p : Int) (w : Nat), vs = [.ref h, .int p, .int (w : Int)] ∧ 1 ≤ p ∧ w ≤ 100 ∧ Hand h dr H ∧
  ∀ (v : V) (r : Rw) H', RowT H' v r → r.length = w → (∀ x ∈ r, 0 ≤ x ∧ x < p) → Hand h dr H' → But h H H' → Q v H'
def spNet : Sp := fun vs H Q _ => ∃ h dr : Addr, vs = [.ref h, .int 6] ∧ Hand h dr H ∧
  ∀ (a : Addr) (p : Int) (W : List Mat) (ks : List Str) (H' : Hp), Shape p W ks → Own H' a p W ks → Hand h dr H' → But h H H' → Q (.ref a) H'
/-- _law_is -/
def spIs (C : Addr) : Sp := fun vs H Q _ => ∃ (x o : Addr) (p : Int) (W : List Mat) (ks : List Str), vs = [.ref x, .ref o] ∧ Shape p W ks ∧ NetAt C H x p W ks ∧ Own H o p W ks ∧ ∀ H', Same H H' → Q (.bl true) H'
def spRef : Sp := fun vs H Q _ => ∃ (v : V) (d : PyData) (o : Addr) (p : Int) (W : List Mat) (ks : List Str), vs = [v, .ref o] ∧ OddV H v d ∧ d ∈ oddD ∧ Own H o p W ks ∧ ∀ H', Same H H' → Q (.bl true) H'
def spOther : Sp := fun vs H Q _ => ∃ (h dr o : Addr) (p : Int) (W : List Mat) (ks : List Str), vs = [.ref h, .ref o] ∧ Hand h dr H ∧ Own H o p W ks ∧ Shape p W ks ∧
  ∀ (a : Addr) (q : Int) (Z : List Mat) (js : List Str) (H' : Hp), Shape q Z js → Own H' a q Z js → ¬ (p = q ∧ W = Z ∧ ks = js) → Hand h dr H' → But h H H' → Q (.ref a) H'
def spLike (C : Addr) : Sp := fun vs H Q _ => ∃ (o : Addr) (p : Int) (W : List Mat) (ks : List Str), vs = [.ref o] ∧ Shape p W ks ∧ Own H o p W ks ∧ ∀ (x : Addr) H', Same H H' → H x = none → NetAt C H' x p W ks → Q (.ref x) H'
def spLaw (K : PySem.W.Frag) : Sp := fun vs H Q _ => ∃ (a : Addr) (ns : List Int), vs = [.ref a] ∧ SqL K H a (ns.map V.int) ∧ ns.length ≤ 63 ∧ ∀ H', Q (.bl true) H'
end NH

set_option Elab.async false
set_option linter.all false
set_option maxRecDepth 100000
set_option maxHeartbeats 4000000
/-! The program's small defs: is_between, is_prime, InvalidNumber.__init__, width, __len__. -/
namespace NA
open PySem PySem.Spec PyProof.Rows L2 ND NR NH

/-- which built-ins are still so, and the module's constant -/
structure Bl (mg : Str → Option Value) : Prop where
  isi : mg "isinstance" = none
  int : mg "int" = none
  bool : mg "bool" = none
  range : mg "range" = none
  tuple : mg "tuple" = none
  list : mg "list" = none
  len : mg "len" = none
  abs : mg "abs" = none
  repr : mg "repr" = none
  min : mg "min" = none
  most : ∃ t, mg "MOST_PRIME" = some (.int 97 t)
section
variable {P : Program} {w : World} {K : PySem.W.Frag} {mg : Str → Option Value} {base : Heap}

theorem OddV.ty {H : Hp} {v : V} {d : PyData} (o : OddV H v d) (h : ∀ i, d ≠ .int i) : (∃ b, v = .bl b) ∨ ∃ t, TyX K H v t ∧ PySem.W.kitOne K t (.type "int") = some false := by
  cases o with
  | non => exact .inr ⟨_, .base .non, kit_ty (by decide +kernel)⟩
  | bl b => exact .inl ⟨b, rfl⟩
  | int i => exact absurd rfl (h i)
  | str x => exact .inr ⟨_, .base (.str x), kit_ty (by decide +kernel)⟩
  | tup ns q => exact .inr ⟨_, .base (.tup q), kit_ty (by decide +kernel)⟩
  | lst ns q => exact .inr ⟨_, .base (.lst q), kit_ty (by decide +kernel)⟩

/-! ### is_between -/
theorem scBt : FnScope ["value", "least", "most"] ["value", "least", "most"] (defScope sBetween) := ⟨rfl, rfl, rfl, by decide +kernel, rfl, by decide +kernel, by decide +kernel⟩
theorem ok_between {f : Addr} {fd : FuncData} (FN : Fun K "is_between" "is_between" sBetween f fd) (B : Bl mg) : FnOk P w K mg base CX0 1 f fd ["value", "least", "most"] (spBetween K) := by
  refine FN.ok scBt (fun vs H Q E h => ?_) (fun cdv A outer s H vs Q E hr h => ?_)
  · obtain ⟨v, lo, hi, rfl, _⟩ := h
    rfl
  · obtain ⟨v, lo, hi, rfl, h⟩ := h
    refine ⟨_, pss_one (ps_ret (pe_and (pe_callB call_isi (by rfl) B.isi (by decide +kernel) (pa_cons (pv 0) (pa_cons (pe_bltn (v := .ty "int") (by rfl) B.int (by decide +kernel) rfl) pa_nil)))
      (pe_and (pe_not (pe_callB call_isi (by rfl) B.isi (by decide +kernel) (pa_cons (pv 0) (pa_cons (pe_bltn (v := .ty "bool") (by rfl) B.bool (by decide +kernel) rfl) pa_nil))))
        (pe_one (pe_chain op_le op_le (pv 1) (pv 0) (pv 2)))))), ?_⟩
    rcases h with ⟨i, rfl, q⟩ | ⟨⟨d, o, hd⟩, q⟩
    · refine ⟨_, rfl, .int i, .ty "int", _, _, true, rfl, .ty "int", .base (.int i), kit_ty (by decide +kernel), true, rfl, iteT ?_⟩
      refine ⟨_, rfl, .int i, .ty "bool", _, _, false, rfl, .ty "bool", .base (.int i), kit_ty (by decide +kernel), false, rfl, true, rfl, iteT ?_⟩
      refine ⟨_, rfl, _, rfl, _, _, rfl, rfl, _, rfl, ?_⟩
      by_cases c : lo ≤ i
      · rw [decide_eq_true c] at q ⊢
        refine iteT ⟨_, rfl, _, _, rfl, rfl, ?_⟩
        simpa using q
      · rw [decide_eq_false c] at q ⊢
        exact iteF (by simpa using q)
    · rcases OddV.ty (K := K) o hd with ⟨b, rfl⟩ | ⟨t, ty, kt⟩
      · refine ⟨_, rfl, .bl b, .ty "int", _, _, true, rfl, .ty "int", .base (.bl b), kit_ty (by decide +kernel), true, rfl, iteT ?_⟩
        refine ⟨_, rfl, .bl b, .ty "bool", _, _, true, rfl, .ty "bool", .base (.bl b), kit_ty (by decide +kernel), true, rfl, false, rfl, iteF q⟩
      · exact ⟨_, rfl, v, .ty "int", _, _, false, rfl, .ty "int", ty, kt, false, rfl, iteF q⟩

/-! ### is_prime -/
theorem scP : FnScope ["value", "divisor"] ["value"] (defScope sPrime) := ⟨rfl, rfl, rfl, by decide +kernel, rfl, by decide +kernel, by decide +kernel⟩
theorem ok_prime {f fB : Addr} {fd fdB : FuncData} (FN : Fun K "is_prime" "is_prime" sPrime f fd) (B : Bl mg) (GB : FnOk P w K mg base CX0 1 fB fdB ["value", "least", "most"] (spBetween K)) (bB : Binds K fdB ["value", "least", "most"] [])
    (mB : mg "is_between" = some (.ref fB)) (kB : PySem.W.keepIn K (.ref fB) = true) : FnOk P w K mg base CX0 2 f fd ["value"] (spPrime K) := by
  obtain ⟨tM, hM⟩ := B.most
  refine FN.ok scP (fun vs H Q E h => ?_) (fun cdv A outer s H vs Q E hr h => ?_)
  · obtain ⟨v, rfl, _⟩ := h
    rfl
  · obtain ⟨v, rfl, h⟩ := h
    refine ⟨_, pss_cons (ps_if (pt_not (pt_val (pe_call GB hr (by rfl) mB kB bB .nil pass0 (pa_cons (pv 0) (pa_cons pe_int (pa_cons (pe_glob (v := .int 97) (by rfl) hM ⟨_, rfl⟩) pa_nil)))))) (pss_one (ps_ret pe_bl)) pss_nil)
      (pss_cons (ps_for PassesOwn.never rfl (pi_range2 (by rfl) B.range (pa_cons pe_int (pa_cons (pv 0) pa_nil))) (pg_name (i := 1) scP.nd rfl (Or.inl rfl))
        (pss_one (ps_if (pt_cmpR op_eq (pe_op op_mod (pv 0) (pv 1)) pe_int (nomark _)) (pss_one (ps_ret pe_bl)) pss_nil)))
      (pss_one (ps_ret pe_bl))), ?_⟩
    rcases h with ⟨i, rfl, q⟩ | ⟨od, q⟩
    · refine ⟨_, rfl, .int i, 2, 97, rfl, .inl ⟨i, rfl, _, rfl, ?_⟩⟩
      by_cases c : 2 ≤ i ∧ i ≤ 97
      · have eb : (decide ((2 : Int) ≤ i) && decide (i ≤ 97)) = true := by simp [c.1, c.2]
        have ep : primeB i = noDiv i (i - 2).toNat := if_pos c
        rw [eb]
        refine iteF ?_
        show _
        refine ⟨_, rfl, 2, i, rfl, ⟨by decide, by decide, by omega, by omega⟩, for_range (lo := 2) (n := (i - 2).toNat) (fun j σ H' => (∃ dv : Option V, σ = [some (.int i), dv]) ∧ H' = H ∧ noDiv i j = true)
          ⟨⟨_, rfl⟩, rfl, rfl⟩ ?_ ?_⟩
        · rintro j σ H' hj ⟨⟨dv, rfl⟩, rfl, hn⟩
          refine ⟨_, rfl, _, rfl, _, _, rfl, rfl, by omega, rfl, _, rfl, ?_⟩
          refine ite2 (fun z => ?_) (fun z => ?_)
          · have z' : i % (2 + (j : Int)) = 0 := V.int.inj (of_decide_eq_true z)
            show Q (.bl false) H'
            rw [ep, noDiv_false z' hj] at q
            exact q
          · refine ⟨⟨_, rfl⟩, rfl, ?_⟩
            rw [noDiv_succ, hn, Bool.true_and]
            exact decide_eq_true fun e => z (decide_eq_true (by show V.int (i % (2 + (j : Int))) = V.int 0; rw [e]))
        · rintro σ H' ⟨⟨dv, rfl⟩, rfl, hn⟩
          show Q (.bl true) H'
          rw [ep, hn] at q
          exact q
      · have eb : (decide ((2 : Int) ≤ i) && decide (i ≤ 97)) = false := by
          rw [Bool.and_eq_false_iff, decide_eq_false_iff_not, decide_eq_false_iff_not]
          omega
        have ep : primeB i = false := if_neg c
        rw [eb]
        refine iteT ?_
        show Q (.bl false) H
        rw [ep] at q
        exact q
    · exact ⟨_, rfl, v, 2, 97, rfl, .inr ⟨od, _, rfl, iteT q⟩⟩
end
end NA

set_option Elab.async false
set_option linter.all false
set_option maxRecDepth 100000
set_option maxHeartbeats 4000000
/-! The class Net and its error. -/
namespace NB
open PySem PySem.Spec PyProof.Rows L2 ND NR NH NA

/-- what stands in the class -/
structure Nt (K : PySem.W.Frag) (mg : Str → Option Value) (C : Addr) : Prop where
  cl : Cls K C
  nP : NoAttr K C "prime"
  nW : NoAttr K C "weights"
  nK : NoAttr K C "kinds"
  mgC : mg "Net" = some (.ref C)
  ha : PySem.W.findIn K (.ref C) "__class__" = some (some (.builtin "object.__class__"))
  hn : PySem.W.specialIn K (.builtin "object.__class__") "__get__" = some (some (.builtin "getset_descriptor.__get__"))
  ht : PySem.W.takesIn K (.builtin "object.__class__") = some true
  hm : PySem.W.mroIn K C (.type "object") = some true
theorem pw_ : ¬ (("prime" : Str) = "weights") := by decide +kernel
theorem pk_ : ¬ (("prime" : Str) = "kinds") := by decide +kernel
theorem wk_ : ¬ (("weights" : Str) = "kinds") := by decide +kernel
theorem wp_ : ¬ (("weights" : Str) = "prime") := by decide +kernel
section
variable {p : Int} {w' k' : V}
theorem fl_prime : (flds p w' k').lookup ("prime" : Str) = some (.int p) := by
  unfold flds
  rw [lookup_putF, if_neg pk_, lookup_putF, if_neg pw_, lookup_putF, if_pos rfl]
theorem fl_weights : (flds p w' k').lookup ("weights" : Str) = some w' := by
  unfold flds
  rw [lookup_putF, if_neg wk_, lookup_putF, if_pos rfl]
theorem fl_kinds : (flds p w' k').lookup ("kinds" : Str) = some k' := by
  unfold flds
  rw [lookup_putF, if_pos rfl]
end
section
variable {P : Program} {w : World} {K : PySem.W.Frag} {mg : Str → Option Value} {base : Heap} {C : Addr}
theorem Nt.ty (T : Nt K mg C) {H : Hp} {x : Addr} {p : Int} {W : List Mat} {ks : List Str} (h : NetAt C H x p W ks) : TyX K H (.ref x) (.ref C) := by
  obtain ⟨dx, w', k', q, _⟩ := h
  exact .base (.ins q T.cl T.ha T.hn T.ht T.hm)
theorem kit_self : PySem.W.kitOne K (.ref C) (.ref C) = some true := by
  unfold PySem.W.kitOne
  rw [if_pos (beq_self_eq_true _)]

/-! ### width, __len__ -/
theorem scW : FnScope ["self"] ["self"] (defScope sWidth) := ⟨rfl, rfl, rfl, by decide +kernel, rfl, by decide +kernel, by decide +kernel⟩
theorem ok_width {f : Addr} {fd : FuncData} (FN : Fun K "width" "Net.width" sWidth f fd) (B : Bl mg) (T : Nt K mg C) : FnOk P w K mg base CX0 1 f fd ["self"] (spWidth C) := by
  refine FN.ok scW (fun vs H Q E h => ?_) (fun cdv A outer s H vs Q E hr h => ?_)
  · obtain ⟨x, p, m, W, ks, rfl, _⟩ := h
    rfl
  · obtain ⟨x, p, m, W, ks, rfl, ⟨dx, w', k', hx, ⟨a, ws, rfl, ha, hws⟩, _⟩, q⟩ := h
    obtain ⟨u, hu, b, ms, rfl, hb, hms⟩ := pr_get (i := 0) (y := m) hws rfl
    refine ⟨_, pss_one (ps_ret (pe_callB call_len_seq (by rfl) B.len PySem.boot_len (pa_cons (pe_ix ix_tup (pe_fld (pv 0) rfl) pe_int (fun _ _ => rfl)) pa_nil))), ?_⟩
    refine ⟨_, rfl, x, C, dx, _, _, rfl, hx, T.cl, T.nW, fl_weights, a, ws, 0, .ref b, rfl, rfl, tupK ha, atI_nat (j := 0) hu, b, ms, rfl, .inr (tupK hb), ?_⟩
    rw [pr_len hms]
    exact q
theorem scL : FnScope ["self"] ["self"] (defScope sLen) := ⟨rfl, rfl, rfl, by decide +kernel, rfl, by decide +kernel, by decide +kernel⟩
theorem ok_len {f : Addr} {fd : FuncData} (FN : Fun K "__len__" "Net.__len__" sLen f fd) (B : Bl mg) (T : Nt K mg C) : FnOk P w K mg base CX0 1 f fd ["self"] (spLen C) := by
  refine FN.ok scL (fun vs H Q E h => ?_) (fun cdv A outer s H vs Q E hr h => ?_)
  · obtain ⟨x, p, W, ks, rfl, _⟩ := h
    rfl
  · obtain ⟨x, p, W, ks, rfl, ⟨dx, w', k', hx, ⟨a, ws, rfl, ha, hws⟩, _⟩, q⟩ := h
    refine ⟨_, pss_one (ps_ret (pe_callB call_len_seq (by rfl) B.len PySem.boot_len (pa_cons (pe_fld (pv 0) rfl) pa_nil))), ?_⟩
    refine ⟨_, rfl, x, C, dx, _, _, rfl, hx, T.cl, T.nW, fl_weights, a, ws, rfl, .inr (tupK ha), ?_⟩
    rw [pr_len hws]
    exact q

/-! ### __eq__ -/
theorem scE : FnScope ["self", "other"] ["self", "other"] (defScope sEq) := ⟨rfl, rfl, rfl, by decide +kernel, rfl, by decide +kernel, by decide +kernel⟩
theorem ok_eq {f : Addr} {fd : FuncData} (FN : Fun K "__eq__" "Net.__eq__" sEq f fd) (B : Bl mg) (T : Nt K mg C) : FnOk P w K mg base CX0 1 f fd ["self", "other"] (spEq K C) := by
  refine FN.ok scE (fun vs H Q E h => ?_) (fun cdv A outer s H vs Q E hr h => ?_)
  · obtain ⟨x, y, p, W, ks, rfl, _⟩ := h
    rfl
  · obtain ⟨x, y, p, W, ks, rfl, hN, S, h⟩ := h
    refine ⟨_, pss_cons (ps_if (pt_not (pt_val (pe_callB call_isi (by rfl) B.isi (by decide +kernel) (pa_cons (pv 1) (pa_cons (pe_glob (v := .ref C) (by rfl) T.mgC rfl) pa_nil))))) (pss_one (ps_ret pe_bl)) pss_nil)
      (pss_one (ps_ret (pe_cmpR (op_eqD hr.units) (pe_tup (pa_cons (pe_fld (pv 0) rfl) (pa_cons (pe_fld (pv 0) rfl) (pa_cons (pe_fld (pv 0) rfl) pa_nil))))
        (pe_tup (pa_cons (pe_fld (pv 1) rfl) (pa_cons (pe_fld (pv 1) rfl) (pa_cons (pe_fld (pv 1) rfl) pa_nil)))) (nomark _)))), ?_⟩
    rcases h with ⟨b, q', Z, js, rfl, hN', S', q⟩ | ⟨t, ty, kt, q⟩
    · refine ⟨_, rfl, .ref b, .ref C, _, _, true, rfl, .own C, T.ty hN', kit_self, true, rfl, iteF ?_⟩
      obtain ⟨dx, w1, k1, hx, hw1, hk1⟩ := hN
      obtain ⟨dy, w2, k2, hy, hw2, hk2⟩ := hN'
      refine ⟨_, rfl, x, C, dx, _, _, rfl, hx, T.cl, T.nP, fl_prime, _, rfl, x, C, dx, _, _, rfl, hx, T.cl, T.nW, fl_weights, _, rfl, x, C, dx, _, _, rfl, hx, T.cl, T.nK, fl_kinds, (by show 3 ≤ sizeLine; decide), fun t1 n1 => ?_⟩
      have s1 : Same H (upd H t1 (.tup [.int p, w1, k1])) := same_upd n1
      have hy1 := s1 _ _ hy
      refine ⟨_, rfl, b, C, dy, _, _, rfl, hy1, T.cl, T.nP, fl_prime, _, rfl, b, C, dy, _, _, rfl, hy1, T.cl, T.nW, fl_weights, _, rfl, b, C, dy, _, _, rfl, hy1, T.cl, T.nK, fl_kinds, (by show 3 ≤ sizeLine; decide), fun t2 n2 => ?_⟩
      have s2 := s1.trans (same_upd (o := .tup [.int q', w2, k2]) n2)
      have tk := Tk.of s2
      have e1 : (upd (upd H t1 (.tup [.int p, w1, k1])) t2 (.tup [.int q', w2, k2])) t1 = some (.tup [.int p, w1, k1]) := (same_upd n2) _ _ upd_same
      refine ⟨dTup p W ks, dTup q' Z js, .tup (tupK e1) (.cons (.int p) (.cons (hw1.mono tk).dp (.cons (hk1.mono tk).dp .nil))), .tup (tupK upd_same) (.cons (.int q') (.cons (hw2.mono tk).dp (.cons (hk2.mono tk).dp .nil))), S.shaped, S'.shaped, ?_⟩
      rw [eqv_tri]
      exact q _ s2
    · exact ⟨_, rfl, y, .ref C, _, _, false, rfl, .own C, ty, kt, false, rfl, iteT q⟩

/-! ### InvalidNumber.__init__ -/
theorem scX : FnScope ["self", "number"] ["self", "number"] (defScope sXInit) := ⟨rfl, rfl, rfl, by decide +kernel, rfl, by decide +kernel, by decide +kernel⟩
theorem ok_xinit {f CX : Addr} {fd : FuncData} (FN : Fun K "__init__" "InvalidNumber.__init__" sXInit f fd) (T : OexC K CX) (no : PySem.W.findIn K (.ref CX) "number" = some none) : FnOk P w K mg base CX0 1 f fd ["self", "number"] (spX CX) := by
  refine FN.ok scX (fun vs H Q E h => ?_) (fun cdv A outer s H vs Q E hr h => ?_)
  · obtain ⟨a, v, rfl, _⟩ := h
    rfl
  · obtain ⟨a, v, rfl, ha, q⟩ := h
    refine ⟨_, pss_one (ps_ost (pv 0) (pv 1)), ?_⟩
    exact ⟨_, rfl, _, rfl, a, CX, rfl, T, no, .inl ⟨ha, fun dx n ne => q dx n ne⟩⟩

/-! ### as_matrix -/
/-- tuple(x), x a list or a tuple, its reading by the written part -/
def rTup (K : PySem.W.Frag) : List V → Hp → VK → Prop := fun xs H Q => ∃ p ys, xs = [.ref p] ∧ ((SqL K H p ys ∧ ∀ l, H l = none → Q (.ref l) (upd H l (.tup ys))) ∨ (SqT K H p ys ∧ Q (.ref p) H))
theorem call_tup {X : Cx} : CallR X (.type "tuple") (rTup X.K) := call_tuple_of
theorem scA : FnScope ["rows", "row"] ["rows"] (defScope sAsM) := ⟨rfl, rfl, rfl, by decide +kernel, rfl, by decide +kernel, by decide +kernel⟩
/-- behind i rows the list at D holds tuples of them -/
def RowsDone (H : Hp) (D : Addr) (m : Mat) (i : Nat) (H' : Hp) : Prop := Same H H' ∧ ∃ acc, H' D = some (.lst acc) ∧ Paired (RowT H') acc (m.take i)
theorem snoc_take {α : Type} {l : List α} {i : Nat} {x : α} (h : l[i]? = some x) : l.take (i + 1) = l.take i ++ [x] := by
  rw [List.take_add_one, h]
  rfl
theorem same_push {H H1 : Hp} {D : Addr} {acc : List V} {y : V} (s : Same H H1) (n : H D = none) : Same H (upd H1 D (.lst (acc ++ [y]))) := fun b o e => by
  rw [upd_ne (ne_of_none e n)]
  exact s b o e
theorem tk_push {H1 : Hp} {D : Addr} {xs acc : List V} (h : H1 D = some (.lst acc)) : Tk H1 (upd H1 D (.lst xs)) := fun b o e => by
  rw [upd_ne (ne_of e h (by intro z; cases z))]
  exact e
theorem row_turn {H H1 : Hp} {D : Addr} {m : Mat} {vs : List V} {i : Nat} {x : V} (hm : Paired (RowS H) vs m) (hl : m.length ≤ 100) (hD : H D = none) (hx : vs[i]? = some x) (h : RowsDone H D m i H1) :
    ∃ p ys, [x] = [V.ref p] ∧ ((SqL K H1 p ys ∧ ∀ l, H1 l = none → ∃ acc, (upd H1 l (.tup ys)) D = some (.lst acc) ∧ acc.length < sizeLine ∧ RowsDone H D m (i + 1) (upd (upd H1 l (.tup ys)) D (.lst (acc ++ [V.ref l])))) ∨
      (SqT K H1 p ys ∧ ∃ acc, H1 D = some (.lst acc) ∧ acc.length < sizeLine ∧ RowsDone H D m (i + 1) (upd H1 D (.lst (acc ++ [V.ref p]))))) := by
  obtain ⟨s1, acc, hacc, pr⟩ := h
  obtain ⟨r, hr, a, rfl, q⟩ := pr_get' hm hx
  have la : acc.length < sizeLine := by
    rw [pr_len pr, List.length_take, sizeLine_eq]
    omega
  refine ⟨a, r.map .int, rfl, ?_⟩
  rcases q with q | q
  · refine .inr ⟨tupK (s1 _ _ q), acc, hacc, la, same_push s1 hD, _, upd_same, ?_⟩
    rw [snoc_take hr]
    have tk : Tk H1 (upd H1 D (.lst (acc ++ [V.ref a]))) := tk_push hacc
    exact pr_snoc ⟨a, rfl, tk _ _ (s1 _ _ q)⟩ (pr_mono (fun _ _ => RowT.mono tk) pr)
  · refine .inl ⟨lstK (s1 _ _ q), fun l hl' => ?_⟩
    have nDl : D ≠ l := ne_of_none hacc hl'
    have hacc' : (upd H1 l (.tup (r.map .int))) D = some (.lst acc) := by rw [upd_ne nDl]; exact hacc
    refine ⟨acc, hacc', la, same_push (s1.trans (same_upd hl')) hD, _, upd_same, ?_⟩
    rw [snoc_take hr]
    have tk : Tk (upd H1 l (.tup (r.map .int))) (upd (upd H1 l (.tup (r.map .int))) D (.lst (acc ++ [V.ref l]))) := tk_push hacc'
    exact pr_snoc ⟨l, rfl, tk _ _ upd_same⟩ (pr_mono (fun _ _ => RowT.mono ((Tk.of (same_upd hl')).trans tk)) pr)
theorem rows_end {H H1 : Hp} {D : Addr} {m : Mat} {n : Nat} {Q : V → Hp → Prop} (hn : n = m.length) (h : RowsDone H D m n H1) (k : ∀ (u : V) H', Same H H' → MatT H' u m → Q u H') :
    ∃ p ys, [V.ref D] = [V.ref p] ∧ ((SqL K H1 p ys ∧ ∀ l, H1 l = none → Q (.ref l) (upd H1 l (.tup ys))) ∨ (SqT K H1 p ys ∧ Q (.ref p) H1)) := by
  obtain ⟨s1, acc, hacc, pr⟩ := h
  subst hn
  rw [List.take_length] at pr
  exact ⟨D, acc, rfl, .inl ⟨lstK hacc, fun l hl => k _ _ (s1.trans (same_upd hl)) ⟨l, acc, rfl, upd_same, pr_mono (fun _ _ => RowT.mono (Tk.of (same_upd hl))) pr⟩⟩⟩
theorem ok_asM {f : Addr} {fd : FuncData} (FN : Fun K "as_matrix" "as_matrix" sAsM f fd) (B : Bl mg) : FnOk P w K mg base CX0 1 f fd ["rows"] spAsM := by
  refine FN.ok scA (fun vs H Q E h => ?_) (fun cdv A outer s H vs Q E hr h => ?_)
  · obtain ⟨v, m, rfl, _⟩ := h
    rfl
  · obtain ⟨v, m, rfl, hl, ⟨a, vs, rfl, hq, hm⟩, k⟩ := h
    rcases hq with hq | hq
    · refine ⟨_, pss_one (ps_ret (pe_callTy call_tuple_of (by rfl) B.tuple (by decide +kernel) (pa_cons (pe_lc (own := [("row", 1)]) (g := gName 1) (tt := tYes) (te := tCB (rTup K) (tCons (tVar 1) tNil)) rfl scA.nd (pi_tup (pv 0)) (blkOk_by (N := ["rows", "row"]) (sc := defScope sAsM) (by decide +kernel))
        (fun _ _ _ _ _ => pg_name (i := 1) scA.nd rfl (Or.inl rfl)) (fun _ _ _ _ _ => pts_nil) (fun _ _ _ _ _ => pe_callTy (r := rTup K) call_tup (by rfl) B.tuple (by decide +kernel) (pa_cons (pv 1) pa_nil))) pa_nil))), ?_⟩
      refine ⟨_, rfl, a, rfl, ⟨_, tupK hq⟩, fun D hD => lc_tup (K := K) (a := a) (xs := vs) (RowsDone H D m) ⟨same_upd hD, [], upd_same, .nil⟩ (fun i H' _ z => tupK (z.1 _ _ hq)) (fun i x H' hx z => ?_) fun H' z => rows_end (pr_len hm) z k⟩
      exact ⟨rfl, _, rfl, row_turn hm hl hD hx z⟩
    · refine ⟨_, pss_one (ps_ret (pe_callTy call_tuple_of (by rfl) B.tuple (by decide +kernel) (pa_cons (pe_lc (own := [("row", 1)]) (g := gName 1) (tt := tYes) (te := tCB (rTup K) (tCons (tVar 1) tNil)) rfl scA.nd (pi_list (pv 0)) (blkOk_by (N := ["rows", "row"]) (sc := defScope sAsM) (by decide +kernel))
        (fun _ _ _ _ _ => pg_name (i := 1) scA.nd rfl (Or.inl rfl)) (fun _ _ _ _ _ => pts_nil) (fun _ _ _ _ _ => pe_callTy (r := rTup K) call_tup (by rfl) B.tuple (by decide +kernel) (pa_cons (pv 1) pa_nil))) pa_nil))), ?_⟩
      refine ⟨_, rfl, a, rfl, ⟨_, lstK hq⟩, fun D hD => lc_list (K := K) (a := a) (xs := vs) (RowsDone H D m) ⟨same_upd hD, [], upd_same, .nil⟩ (fun i H' _ z => lstK (z.1 _ _ hq)) (fun i x H' hx z => ?_) fun H' z => rows_end (pr_len hm) z k⟩
      exact ⟨rfl, _, rfl, row_turn hm hl hD hx z⟩
end
end NB

set_option Elab.async false
set_option linter.all false
set_option maxRecDepth 100000
set_option maxHeartbeats 4000000
/-! Net.__init__. -/
namespace NC
open PySem PySem.Spec PyProof.Rows L2 ND NR NH NA NB
section
variable {P : Program} {w : World} {K : PySem.W.Frag} {mg : Str → Option Value} {base : Heap} {C CX : Addr}
theorem scI : FnScope ["self", "prime", "weights", "kinds", "matrix"] ["self", "prime", "weights", "kinds"] (defScope sNInit) := ⟨rfl, rfl, rfl, by decide +kernel, rfl, by decide +kernel, by decide +kernel⟩
/-- behind i matrices -/
def MatsDone (H : Hp) (D : Addr) (W : List Mat) (i : Nat) (H' : Hp) : Prop := Same H H' ∧ ∃ acc, H' D = some (.lst acc) ∧ Paired (MatT H') acc (W.take i)
theorem mat_turn {H H1 : Hp} {D : Addr} {W : List Mat} {vs : List V} {i : Nat} {x : V} (hm : Paired (MatS H) vs W) (hl : W.length ≤ 100) (hl2 : ∀ m ∈ W, m.length ≤ 100) (hD : H D = none) (hx : vs[i]? = some x) (h : MatsDone H D W i H1) :
    ∃ (v : V) (m : Mat), [x] = [v] ∧ m.length ≤ 100 ∧ MatS H1 v m ∧ ∀ (u : V) H', Same H1 H' → MatT H' u m → ∃ acc, H' D = some (.lst acc) ∧ acc.length < sizeLine ∧ MatsDone H D W (i + 1) (upd H' D (.lst (acc ++ [u]))) := by
  obtain ⟨s1, acc, hacc, pr⟩ := h
  obtain ⟨m, hm', q⟩ := pr_get' hm hx
  have la : acc.length < sizeLine := by
    rw [pr_len pr, List.length_take, sizeLine_eq]
    omega
  refine ⟨x, m, rfl, hl2 m (List.mem_of_getElem? hm'), q.mono s1, fun u H' s2 ut => ?_⟩
  refine ⟨acc, s2 _ _ hacc, la, same_push (s1.trans s2) hD, _, upd_same, ?_⟩
  rw [snoc_take hm']
  have tk : Tk H' (upd H' D (.lst (acc ++ [u]))) := tk_push (s2 _ _ hacc)
  exact pr_snoc (ut.mono tk) (pr_mono (fun _ _ => MatT.mono ((Tk.of s2).trans tk)) pr)
theorem mats_end {H H1 : Hp} {D : Addr} {W : List Mat} {n : Nat} (hn : n = W.length) (h : MatsDone H D W n H1) :
    ∃ acc, SqL K H1 D acc ∧ ∀ l, H1 l = none → Same H (upd H1 l (.tup acc)) ∧ WsT (upd H1 l (.tup acc)) (.ref l) W := by
  obtain ⟨s1, acc, hacc, pr⟩ := h
  subst hn
  rw [List.take_length] at pr
  exact ⟨acc, lstK hacc, fun l hl => ⟨s1.trans (same_upd hl), l, acc, rfl, upd_same, pr_mono (fun _ _ => MatT.mono (Tk.of (same_upd hl))) pr⟩⟩
theorem len_put (p : Int) : (putF "prime" (.int p) ([] : List (Str × V))).length = 1 := rfl
theorem len_put2 (p : Int) (v : V) : (putF "weights" v (putF "prime" (.int p) ([] : List (Str × V)))).length ≤ 2 := Nat.le_trans (length_putF _ _ _) (Nat.le_refl _)
/-- an instance is no tuple and no list -/
theorem tk_ins {H : Hp} {x C dx : Addr} {fs gs : List (Str × V)} (h : H x = some (.ins C dx fs)) : Tk H (upd H x (.ins C dx gs)) := fun b o e => by
  rw [upd_ne (ne_of e h (by intro z; cases z))]
  exact e
theorem sq_ins {H : Hp} {x C dx a : Addr} {fs gs : List (Str × V)} {xs : List V} (h : H x = some (.ins C dx fs)) (q : Sq H a xs) : Sq (upd H x (.ins C dx gs)) a xs := by
  rcases q with q | q
  · exact .inl (by rw [upd_ne (ne_of q h (by intro z; cases z))]; exact q)
  · exact .inr (by rw [upd_ne (ne_of q h (by intro z; cases z))]; exact q)
theorem rowS_ins {H : Hp} {x C dx : Addr} {fs gs : List (Str × V)} (h : H x = some (.ins C dx fs)) {v : V} {r : Rw} (q : RowS H v r) : RowS (upd H x (.ins C dx gs)) v r := let ⟨a, e, q⟩ := q; ⟨a, e, sq_ins h q⟩
theorem matS_ins {H : Hp} {x C dx : Addr} {fs gs : List (Str × V)} (h : H x = some (.ins C dx fs)) {v : V} {r : Mat} (q : MatS H v r) : MatS (upd H x (.ins C dx gs)) v r :=
  let ⟨a, vs, e, q, z⟩ := q
  ⟨a, vs, e, sq_ins h q, pr_mono (fun _ _ => rowS_ins h) z⟩
theorem ok_ninit {f fP fA fX : Addr} {fd fdP fdA fdX : FuncData} (FN : Fun K "__init__" "Net.__init__" sNInit f fd) (B : Bl mg) (T : Nt K mg C)
    (GP : FnOk P w K mg base CX0 2 fP fdP ["value"] (spPrime K)) (bP : Binds K fdP ["value"] []) (mP : mg "is_prime" = some (.ref fP)) (kP : PySem.W.keepIn K (.ref fP) = true)
    (GA : FnOk P w K mg base CX0 1 fA fdA ["rows"] spAsM) (bA : Binds K fdA ["rows"] []) (mA : mg "as_matrix" = some (.ref fA)) (kA : PySem.W.keepIn K (.ref fA) = true)
    (GX : FnOk P w K mg base CX0 1 fX fdX ["self", "number"] (spX CX)) (bX : Binds K fdX ["self", "number"] []) (mX : mg "InvalidNumber" = some (.ref CX)) (TX : OexC K CX)
    (iX : PySem.W.findIn K (.ref CX) "__init__" = some (some (.ref fX))) (tX : PySem.W.typeIn K (.ref fX) = some (.type "function")) :
    FnOk P w K mg base (L2.CX P w) 3 f fd ["self", "prime", "weights", "kinds"] (spNI C CX) := by
  refine FN.okX scI (fun vs H Q E h => ?_) (fun cdv A outer s H vs Q E hr h => ?_)
  · obtain ⟨x, dx, pv, wv, kv, W, ks, rfl, _⟩ := h
    rfl
  · obtain ⟨x, dx, pv', wv, kv, W, ks, rfl, hx, hdx, h⟩ := h
    have hr1 : Room 1 _ := hr.mono (by decide)
    rcases h with ⟨p, rfl, hp, hl, hl2, ⟨a, ws, rfl, hq, hws⟩, ⟨b, rfl, hk⟩, k⟩ | ⟨d, o, hd, k⟩
    · -- a prime: what stands behind the weights, and the end
      have hx1 : (upd H x (.ins C dx (putF "prime" (.int p) []))) x = some (.ins C dx (putF "prime" (.int p) [])) := upd_same
      have hws1 : Paired (MatS (upd H x (.ins C dx (putF "prime" (.int p) [])))) ws W := pr_mono (fun _ _ => matS_ins hx) hws
      have hq1 : Sq (upd H x (.ins C dx (putF "prime" (.int p) []))) a ws := sq_ins hx hq
      have hk1 : Sq (upd H x (.ins C dx (putF "prime" (.int p) []))) b (ks.map .str) := sq_ins hx hk
      have last : ∀ (H3 : Hp) (wt kt : V), Same (upd H x (.ins C dx (putF "prime" (.int p) []))) H3 → WsT H3 wt W →
          ∀ H5, Same (upd H3 x (.ins C dx (putF "weights" wt (putF "prime" (.int p) [])))) H5 → KsT H5 kt ks → Q .non (upd H5 x (.ins C dx (putF "kinds" kt (putF "weights" wt (putF "prime" (.int p) []))))) := by
        intro H3 wt kt s3 hw H5 s5 hkt
        have hx3 := s3 _ _ hx1
        have hx5 := s5 _ _ upd_same
        refine k _ (fun c u hc e => ?_) ⟨dx, wt, kt, upd_same, (hw.mono ((tk_ins hx3).trans (Tk.of s5))).mono (tk_ins hx5), hkt.mono (tk_ins hx5)⟩
        rw [upd_ne hc]
        refine s5 _ _ ?_
        rw [upd_ne hc]
        refine s3 _ _ ?_
        rw [upd_ne hc]
        exact e
      -- behind the weights: self.kinds = tuple(kinds)
      have kinds : ∀ (H3 : Hp) (wt : V), Same (upd H x (.ins C dx (putF "prime" (.int p) []))) H3 → WsT H3 wt W →
          ∃ p' ys, [V.ref b] = [V.ref p'] ∧
            ((SqL K (upd H3 x (.ins C dx (putF "weights" wt (putF "prime" (.int p) [])))) p' ys ∧ ∀ l, (upd H3 x (.ins C dx (putF "weights" wt (putF "prime" (.int p) [])))) l = none →
                ∃ v, [some (V.ref x), some (.int p), some (.ref a), some (.ref b), none][0]? = some (some v) ∧ ∃ a' C' dx' fs, v = .ref a' ∧ (upd (upd H3 x (.ins C dx (putF "weights" wt (putF "prime" (.int p) [])))) l (.tup ys)) a' = some (.ins C' dx' fs) ∧ Cls K C' ∧ NoAttr K C' "kinds" ∧ fs.length < 1000 ∧
                  Q .non (upd (upd (upd H3 x (.ins C dx (putF "weights" wt (putF "prime" (.int p) [])))) l (.tup ys)) a' (.ins C' dx' (putF "kinds" (.ref l) fs)))) ∨
              (SqT K (upd H3 x (.ins C dx (putF "weights" wt (putF "prime" (.int p) [])))) p' ys ∧
                ∃ v, [some (V.ref x), some (.int p), some (.ref a), some (.ref b), none][0]? = some (some v) ∧ ∃ a' C' dx' fs, v = .ref a' ∧ (upd H3 x (.ins C dx (putF "weights" wt (putF "prime" (.int p) [])))) a' = some (.ins C' dx' fs) ∧ Cls K C' ∧ NoAttr K C' "kinds" ∧ fs.length < 1000 ∧
                  Q .non (upd (upd H3 x (.ins C dx (putF "weights" wt (putF "prime" (.int p) [])))) a' (.ins C' dx' (putF "kinds" (.ref p') fs))))) := by
        intro H3 wt s3 hw
        have hx3 := s3 _ _ hx1
        have few : (putF "weights" wt (putF "prime" (.int p) ([] : List (Str × V)))).length < 1000 := Nat.lt_of_le_of_lt (len_put2 p wt) (by decide)
        have hk3 : Sq (upd H3 x (.ins C dx (putF "weights" wt (putF "prime" (.int p) [])))) b (ks.map .str) := sq_ins hx3 (hk1.mono s3)
        refine ⟨b, ks.map .str, rfl, ?_⟩
        rcases hk3 with hk3 | hk3
        · exact .inr ⟨tupK hk3, _, rfl, x, C, dx, _, rfl, upd_same, T.cl, T.nK, few, last H3 wt (.ref b) s3 hw _ (Same.refl _) ⟨b, rfl, hk3⟩⟩
        · refine .inl ⟨lstK hk3, fun l hl' => ⟨_, rfl, x, C, dx, _, rfl, (same_upd hl') _ _ upd_same, T.cl, T.nK, few, last H3 wt (.ref l) s3 hw _ (same_upd hl') ⟨l, rfl, upd_same⟩⟩⟩
      rcases hq1 with hq1 | hq1
      · refine ⟨_, pss_cons (ps_if (pt_not (pt_val (pe_call GP hr (by rfl) mP kP bP .nil pass0 (pa_cons (pv 1) pa_nil)))) (pss_one (ps_raise rfl (takes_of rfl rfl rfl rfl) (pmk_oex TX iX tX GX hr bX .nil pass0 (by rfl) mX (pa_cons (pv 1) pa_nil)))) pss_nil)
          (pss_cons (ps_fld (pv 0) (pv 1) rfl) (pss_cons (ps_fld (pv 0) (pe_callTy (r := rTup K) call_tup (by rfl) B.tuple (by decide +kernel) (pa_cons (pe_lc (own := [("matrix", 4)]) (g := gName 4) (tt := tYes) (te := tCall spAsM [] E0 (tCons (tVar 4) tNil)) rfl scI.nd (pi_tup (pv 2))
            (blkOk_by (N := ["self", "prime", "weights", "kinds", "matrix"]) (sc := defScope sNInit) (by decide +kernel)) (fun _ _ _ _ _ => pg_name (i := 4) scI.nd rfl (Or.inl rfl)) (fun _ _ _ _ _ => pts_nil) (fun _ _ _ _ _ => pe_call GA hr1 (by rfl) mA kA bA .nil pass0 (pa_cons (pv 4) pa_nil))) pa_nil)) rfl)
          (pss_one (ps_fld (pv 0) (pe_callTy (r := rTup K) call_tup (by rfl) B.tuple (by decide +kernel) (pa_cons (pv 3) pa_nil)) rfl)))), ?_⟩
        refine ⟨_, rfl, .int p, rfl, .inl ⟨p, rfl, true, by rw [hp], iteF ?_⟩⟩
        refine ⟨_, rfl, _, rfl, x, C, dx, [], rfl, hx, T.cl, T.nP, (by show 0 < 1000; decide), ?_⟩
        refine ⟨_, rfl, a, rfl, ⟨_, tupK hq1⟩, fun D hD => lc_tup (K := K) (a := a) (xs := ws) (MatsDone _ D W) ⟨same_upd hD, [], upd_same, .nil⟩ (fun i H' _ z => tupK (z.1 _ _ hq1)) (fun i y H' hy z => ⟨rfl, _, rfl, mat_turn hws1 hl hl2 hD hy z⟩) fun H' z => ?_⟩
        obtain ⟨acc, hacc, hend⟩ := mats_end (K := K) (pr_len hws1) z
        refine ⟨D, acc, rfl, .inl ⟨hacc, fun l hl' => ?_⟩⟩
        obtain ⟨s3, hw3⟩ := hend l hl'
        exact ⟨_, rfl, x, C, dx, _, rfl, s3 _ _ hx1, T.cl, T.nW, (by show 1 < 1000; decide), _, rfl, kinds _ _ s3 hw3⟩
      · refine ⟨_, pss_cons (ps_if (pt_not (pt_val (pe_call GP hr (by rfl) mP kP bP .nil pass0 (pa_cons (pv 1) pa_nil)))) (pss_one (ps_raise rfl (takes_of rfl rfl rfl rfl) (pmk_oex TX iX tX GX hr bX .nil pass0 (by rfl) mX (pa_cons (pv 1) pa_nil)))) pss_nil)
          (pss_cons (ps_fld (pv 0) (pv 1) rfl) (pss_cons (ps_fld (pv 0) (pe_callTy (r := rTup K) call_tup (by rfl) B.tuple (by decide +kernel) (pa_cons (pe_lc (own := [("matrix", 4)]) (g := gName 4) (tt := tYes) (te := tCall spAsM [] E0 (tCons (tVar 4) tNil)) rfl scI.nd (pi_list (pv 2))
            (blkOk_by (N := ["self", "prime", "weights", "kinds", "matrix"]) (sc := defScope sNInit) (by decide +kernel)) (fun _ _ _ _ _ => pg_name (i := 4) scI.nd rfl (Or.inl rfl)) (fun _ _ _ _ _ => pts_nil) (fun _ _ _ _ _ => pe_call GA hr1 (by rfl) mA kA bA .nil pass0 (pa_cons (pv 4) pa_nil))) pa_nil)) rfl)
          (pss_one (ps_fld (pv 0) (pe_callTy (r := rTup K) call_tup (by rfl) B.tuple (by decide +kernel) (pa_cons (pv 3) pa_nil)) rfl)))), ?_⟩
        refine ⟨_, rfl, .int p, rfl, .inl ⟨p, rfl, true, by rw [hp], iteF ?_⟩⟩
        refine ⟨_, rfl, _, rfl, x, C, dx, [], rfl, hx, T.cl, T.nP, (by show 0 < 1000; decide), ?_⟩
        refine ⟨_, rfl, a, rfl, ⟨_, lstK hq1⟩, fun D hD => lc_list (K := K) (a := a) (xs := ws) (MatsDone _ D W) ⟨same_upd hD, [], upd_same, .nil⟩ (fun i H' _ z => lstK (z.1 _ _ hq1)) (fun i y H' hy z => ⟨rfl, _, rfl, mat_turn hws1 hl hl2 hD hy z⟩) fun H' z => ?_⟩
        obtain ⟨acc, hacc, hend⟩ := mats_end (K := K) (pr_len hws1) z
        refine ⟨D, acc, rfl, .inl ⟨hacc, fun l hl' => ?_⟩⟩
        obtain ⟨s3, hw3⟩ := hend l hl'
        exact ⟨_, rfl, x, C, dx, _, rfl, s3 _ _ hx1, T.cl, T.nW, (by show 1 < 1000; decide), _, rfl, kinds _ _ s3 hw3⟩
    · refine ⟨_, pss_cons (ps_if (pt_not (pt_val (pe_call GP hr (by rfl) mP kP bP .nil pass0 (pa_cons (pv 1) pa_nil)))) (pss_one (ps_raise rfl (takes_of rfl rfl rfl rfl) (pmk_oex TX iX tX GX hr bX .nil pass0 (by rfl) mX (pa_cons (pv 1) pa_nil)))) pss_nil)
          (pss_cons (ps_fld (pv 0) (pv 1) rfl) (pss_cons (ps_fld (pv 0) (pe_callTy (r := rTup K) call_tup (by rfl) B.tuple (by decide +kernel) (pa_cons (pe_lc (own := [("matrix", 4)]) (g := gName 4) (tt := tYes) (te := tCall spAsM [] E0 (tCons (tVar 4) tNil)) rfl scI.nd (pi_list (pv 2))
            (blkOk_by (N := ["self", "prime", "weights", "kinds", "matrix"]) (sc := defScope sNInit) (by decide +kernel)) (fun _ _ _ _ _ => pg_name (i := 4) scI.nd rfl (Or.inl rfl)) (fun _ _ _ _ _ => pts_nil) (fun _ _ _ _ _ => pe_call GA hr1 (by rfl) mA kA bA .nil pass0 (pa_cons (pv 4) pa_nil))) pa_nil)) rfl)
          (pss_one (ps_fld (pv 0) (pe_callTy (r := rTup K) call_tup (by rfl) B.tuple (by decide +kernel) (pa_cons (pv 3) pa_nil)) rfl)))), ?_⟩
      have raise : ∀ n : Nat, ∃ (v : V), [some (V.ref x), some pv', some wv, some kv, none][1]? = some (some v) ∧ [v].length ≤ 1000 ∧ ∀ a', H a' = none → spX CX (.ref a' :: ([v] ++ [])) (upd H a' (exo a' CX none))
          (fun v' H2 => v' = .non ∧ ∃ (d : Addr) (fs : List (Str × V)), H2 a' = some (exo a' CX (some d)) ∧ H2 d = some (exd d fs) ∧ H d = none ∧ E (.ref CX) (some d) (upd (del H2 a') d (.xd fs))) (fun _ _ _ => False) := by
        intro _
        refine ⟨pv', rfl, by show 1 ≤ 1000; decide, fun a' na => ⟨a', pv', rfl, upd_same, fun dd nd ne => ⟨rfl, dd, [("number", pv')], upd_same, ?_, ?_, ?_⟩⟩⟩
        · rw [upd_ne ne, upd_same]
        · rw [upd_ne ne] at nd
          exact nd
        · refine k dd _ (fun c u hc e => ?_) upd_same
          rw [upd_ne ne] at nd
          have c1 : c ≠ dd := ne_of_none e nd
          have c2 : c ≠ a' := ne_of_none e na
          rw [upd_ne c1, del_ne c2, upd_ne c2, upd_ne c1, upd_ne c2]
          exact e
      cases o with
      | int i =>
        have e := (good_of hd).2.2.2.2 i rfl
        exact ⟨_, rfl, .int i, rfl, .inl ⟨i, rfl, false, by rw [e], iteT (raise 0)⟩⟩
      | non => exact ⟨_, rfl, _, rfl, .inr ⟨⟨_, .non, fun _ z => nomatch z⟩, false, rfl, iteT (raise 0)⟩⟩
      | bl b => exact ⟨_, rfl, _, rfl, .inr ⟨⟨_, .bl b, fun _ z => nomatch z⟩, false, rfl, iteT (raise 0)⟩⟩
      | str y => exact ⟨_, rfl, _, rfl, .inr ⟨⟨_, .str y, fun _ z => nomatch z⟩, false, rfl, iteT (raise 0)⟩⟩
      | tup ns hh => exact ⟨_, rfl, _, rfl, .inr ⟨⟨_, .tup ns hh, fun _ z => nomatch z⟩, false, rfl, iteT (raise 0)⟩⟩
      | lst ns hh => exact ⟨_, rfl, _, rfl, .inr ⟨⟨_, .lst ns hh, fun _ z => nomatch z⟩, false, rfl, iteT (raise 0)⟩⟩
end
end NC

set_option Elab.async false
set_option linter.all false
set_option maxRecDepth 100000
set_option maxHeartbeats 4000000
/-! The law's own drawing defs: _law_take, _law_prime, _law_odd, _law_vector. -/
namespace ND2
open PySem PySem.Spec PyProof.Rows L2 ND NR NH NA NB NC
section
variable {P : Program} {w : World} {K : PySem.W.Frag} {mg : Str → Option Value} {base : Heap}
theorem hand_in {h dr : Addr} {H : Hp} (z : Hand h dr H) : ∃ o, H h = some o := let ⟨ds, k, e, _⟩ := z; ⟨_, e⟩
/-- what was new ahead stands behind -/
theorem but_new {h dr l : Addr} {H H1 H2 : Hp} {o : HO} (z : Hand h dr H) (hl : H l = none) (b : But h H1 H2) (e : H1 l = some o) : H2 l = some o := by
  obtain ⟨u, hu⟩ := hand_in z
  exact b l o (fun q => by rw [q, hu] at hl; cases hl) e
theorem at_map {α : Type} {f : α → V} {l : List α} {v : Int} (h0 : 0 ≤ v) (h1 : v < (l.length : Int)) : ∃ a ∈ l, atI (l.map f) v = some (f a) := by
  obtain ⟨j, rfl⟩ : ∃ j : Nat, v = (j : Int) := ⟨v.toNat, by omega⟩
  have hj : j < l.length := by omega
  exact ⟨l[j], List.getElem_mem hj, atI_nat (by rw [List.getElem?_map, List.getElem?_eq_getElem hj]; rfl)⟩
theorem at_pr {α : Type} {F : V → α → Prop} {l : List α} {vs : List V} {v : Int} (p : Paired F vs l) (h0 : 0 ≤ v) (h1 : v < (l.length : Int)) : ∃ x a, a ∈ l ∧ F x a ∧ atI vs v = some x := by
  obtain ⟨j, rfl⟩ : ∃ j : Nat, v = (j : Int) := ⟨v.toNat, by omega⟩
  have hj : j < l.length := by omega
  obtain ⟨x, hx, q⟩ := pr_get p (List.getElem?_eq_getElem hj)
  exact ⟨x, l[j], List.getElem_mem hj, q, atI_nat hx⟩

/-! ### _law_take -/
theorem scT : FnScope ["_law_hand", "_law_many", "_law_spot", "_law_draws_here"] ["_law_hand", "_law_many"] (defScope sTake) := ⟨rfl, rfl, rfl, by decide +kernel, rfl, by decide +kernel, by decide +kernel⟩
theorem ok_take {f : Addr} {fd : FuncData} (FN : Fun K "_law_take" "_law_take" sTake f fd) (B : Bl mg) : FnOk P w K mg base CX0 1 f fd ["_law_hand", "_law_many"] spTake := by
  refine FN.ok scT (fun vs H Q E h => ?_) (fun cdv A outer s H vs Q E hr h => ?_)
  · obtain ⟨h, dr, many, rfl, _⟩ := h
    rfl
  · obtain ⟨h, dr, many, rfl, hm, ⟨ds, k, e1, e2⟩, q⟩ := h
    refine ⟨_, pss_cons (ps_set (i := 2) scT.nd rfl (Or.inl rfl) (pe_ix ix_list (pv 0) pe_int (fun _ _ => rfl)))
      (pss_cons (ps_asg (pe_op op_add (pv 2) pe_int) (pg_sub (pv 0) pe_int set_list))
      (pss_cons (ps_set (i := 3) scT.nd rfl (Or.inl rfl) (pe_ix ix_list (pv 0) pe_int (fun _ _ => rfl)))
      (pss_cons (ps_if (pt_cmpR op_ge (pv 2) (pe_callB call_len_seq (by rfl) B.len PySem.boot_len (pa_cons (pv 3) pa_nil)) (nomark _)) (pss_one (ps_ret pe_int)) pss_nil)
      (pss_one (ps_ret (pe_op op_mod (pe_op op_fdiv (pe_callTy call_int1 (by rfl) B.int (by decide +kernel) (pa_cons (pe_ix ix_list (pv 3) (pv 2) (fun _ _ => rfl)) pa_nil)) pe_int) (pv 1))))))), ?_⟩
    have ndh : dr ≠ h := fun z => by
      rw [z, e1] at e2
      have z' := HO.lst.inj (Option.some.inj e2)
      cases ds with
      | nil => cases z'
      | cons i r => cases z'
    refine ⟨_, rfl, h, _, 1, .int (k : Int), rfl, rfl, lstK e1, rfl, ?_⟩
    refine ⟨_, rfl, _, _, rfl, rfl, _, rfl, h, _, 1, 1, rfl, rfl, e1, rfl, ?_⟩
    have hE : (upd H h (.lst [V.ref dr, .int ((k : Int) + 1)])) dr = some (.lst (ds.map .int)) := by rw [upd_ne ndh]; exact e2
    have hand : Hand h dr (upd H h (.lst [V.ref dr, .int ((k : Int) + 1)])) := ⟨ds, k + 1, by rw [upd_same]; rfl, hE⟩
    have but : But h H (upd H h (.lst [V.ref dr, .int ((k : Int) + 1)])) := fun b o n e => by rw [upd_ne n]; exact e
    refine ⟨_, rfl, h, [V.ref dr, .int ((k : Int) + 1)], 0, .ref dr, rfl, rfl, lstK upd_same, rfl, ?_⟩
    refine ⟨_, rfl, _, rfl, dr, ds.map .int, rfl, .inl (lstK hE), _, _, rfl, rfl, _, rfl, ?_⟩
    refine ite2 (fun c => ?_) (fun c => ?_)
    · exact q 0 _ (by omega) (by omega) hand but
    · have c' : ¬ ((ds.map V.int).length : Int) ≤ (k : Int) := fun z => c (decide_eq_true z)
      rw [List.length_map] at c'
      obtain ⟨x, hx⟩ : ∃ x, ds[k]? = some x := ⟨ds[k]'(by omega), List.getElem?_eq_getElem (by omega)⟩
      refine ⟨_, rfl, _, rfl, dr, ds.map .int, (k : Int), .int x, rfl, rfl, lstK hE, atI_nat (by rw [List.getElem?_map, hx]; rfl), .inl ⟨x, rfl, ?_⟩⟩
      refine ⟨_, _, rfl, rfl, ⟨by decide, by decide⟩, _, rfl, _, _, rfl, rfl, by omega, ?_⟩
      exact q _ _ (Int.emod_nonneg _ (by omega)) (Int.emod_lt_of_pos _ (by omega)) hand but

theorem scO : FnScope ["_law_hand"] ["_law_hand"] (defScope sOdd) := ⟨rfl, rfl, rfl, by decide +kernel, rfl, by decide +kernel, by decide +kernel⟩
theorem scV : FnScope ["_law_hand", "_law_prime_here", "_law_width", "_law_k"] ["_law_hand", "_law_prime_here", "_law_width"] (defScope sVec) := ⟨rfl, rfl, rfl, by decide +kernel, rfl, by decide +kernel, by decide +kernel⟩
theorem big_eq : ((10 : Int) ^ (30 : Int).toNat) = 10 ^ 30 := congrArg (fun n => (10 : Int) ^ n) (show (30 : Int).toNat = 30 from rfl)
theorem first_odd : ∀ d : PyData, d ∈ ([.none, .bool true, .int (-1), .str "0", .tuple [], .list [], .int (10 ^ 30), .str "", .tuple [.int 1], .list [.int 0], .bool false] : List PyData) → d ∈ oddD := fun d h => by
  have : oddD = ([.none, .bool true, .int (-1), .str "0", .tuple [], .list [], .int (10 ^ 30), .str "", .tuple [.int 1], .list [.int 0], .bool false] : List PyData) ++ [.int 0, .int 1, .int 4, .int 9, .int 91, .int 95, .int 98, .int 101, .int (10 ^ 20), .int (-7), .int (-2), .int 49, .int 77, .int 6] := rfl
  rw [this]
  exact List.mem_append_left _ h
/-! ### _law_prime -/
theorem scLP : FnScope ["_law_hand", "_law_primes"] ["_law_hand"] (defScope sLPrime) := ⟨rfl, rfl, rfl, by decide +kernel, rfl, by decide +kernel, by decide +kernel⟩
theorem low_primes : ∀ p ∈ ([2, 3, 5, 7] : List Int), p ∈ primes := by decide +kernel
theorem high_primes : ∀ p ∈ ([11, 13, 17, 19, 23, 29, 31, 37, 41, 43, 47, 53, 59, 61, 67, 71, 73, 79, 83, 89, 97] : List Int), p ∈ primes := by decide +kernel
section
variable {fT : Addr} {fdT : FuncData} (GT : FnOk P w K mg base CX0 1 fT fdT ["_law_hand", "_law_many"] spTake) (bT : Binds K fdT ["_law_hand", "_law_many"] []) (mT : mg "_law_take" = some (.ref fT)) (kT : PySem.W.keepIn K (.ref fT) = true)
include GT bT mT kT
theorem ok_lprime {f : Addr} {fd : FuncData} (FN : Fun K "_law_prime" "_law_prime" sLPrime f fd) : FnOk P w K mg base CX0 2 f fd ["_law_hand"] spLPrime := by
  refine FN.ok scLP (fun vs H Q E h => ?_) (fun cdv A outer s H vs Q E hr h => ?_)
  · obtain ⟨h, dr, rfl, _⟩ := h
    rfl
  · obtain ⟨h, dr, rfl, hh, q⟩ := h
    have hr1 : Room 1 _ := hr.mono (by decide)
    refine ⟨_, pss_cons (ps_if (pt_cmpR op_eq (pe_call GT hr1 (by rfl) mT kT bT .nil pass0 (pa_cons (pv 0) (pa_cons pe_int pa_nil))) pe_int (nomark _))
        (pss_one (ps_ret (pe_ix ix_list (pe_lst (pa_cons pe_int (pa_cons pe_int (pa_cons pe_int (pa_cons pe_int pa_nil))))) (pe_call GT hr1 (by rfl) mT kT bT .nil pass0 (pa_cons (pv 0) (pa_cons pe_int pa_nil))) (fun _ _ => rfl)))) pss_nil)
      (pss_cons (ps_set (i := 1) scLP.nd rfl (Or.inl rfl) (pe_lst (pa_cons pe_int (pa_cons pe_int (pa_cons pe_int (pa_cons pe_int (pa_cons pe_int (pa_cons pe_int (pa_cons pe_int (pa_cons pe_int (pa_cons pe_int (pa_cons pe_int (pa_cons pe_int
        (pa_cons pe_int (pa_cons pe_int (pa_cons pe_int (pa_cons pe_int (pa_cons pe_int (pa_cons pe_int (pa_cons pe_int (pa_cons pe_int (pa_cons pe_int (pa_cons pe_int pa_nil)))))))))))))))))))))))
      (pss_one (ps_ret (pe_ix ix_list (pv 1) (pe_call GT hr1 (by rfl) mT kT bT .nil pass0 (pa_cons (pv 0) (pa_cons pe_int pa_nil))) (fun _ _ => rfl))))), ?_⟩
    refine ⟨_, rfl, h, dr, 2, rfl, by decide, hh, fun v H1 v0 v1 hh1 b1 => ?_⟩
    refine ⟨rfl, _, rfl, ?_⟩
    refine ite2 (fun c => ?_) (fun c => ?_)
    · refine ⟨(by show 4 ≤ sizeLine; decide), fun l hl => ?_⟩
      refine ⟨_, rfl, h, dr, 4, rfl, by decide, hh1.same (same_upd hl), fun u H2 u0 u1 hh2 b2 => ?_⟩
      obtain ⟨p, hp, e⟩ := at_map (f := V.int) (l := ([2, 3, 5, 7] : List Int)) u0 u1
      exact ⟨l, ([2, 3, 5, 7] : List Int).map .int, u, .int p, rfl, rfl, lstK (but_new hh1 hl b2 upd_same), e, q p H2 (low_primes p hp) hh2 (b1.trans ((But.same (same_upd hl)).trans b2))⟩
    · refine ⟨(by show 21 ≤ sizeLine; decide), fun l hl => ?_⟩
      refine ⟨_, rfl, _, rfl, h, dr, 21, rfl, by decide, hh1.same (same_upd hl), fun u H2 u0 u1 hh2 b2 => ?_⟩
      obtain ⟨p, hp, e⟩ := at_map (f := V.int) (l := ([11, 13, 17, 19, 23, 29, 31, 37, 41, 43, 47, 53, 59, 61, 67, 71, 73, 79, 83, 89, 97] : List Int)) u0 u1
      exact ⟨l, ([11, 13, 17, 19, 23, 29, 31, 37, 41, 43, 47, 53, 59, 61, 67, 71, 73, 79, 83, 89, 97] : List Int).map .int, u, .int p, rfl, rfl, lstK (but_new hh1 hl b2 upd_same), e,
        q p H2 (high_primes p hp) hh2 (b1.trans ((But.same (same_upd hl)).trans b2))⟩

/-! ### _law_odd -/
theorem ok_odd {f : Addr} {fd : FuncData} (FN : Fun K "_law_odd" "_law_odd" sOdd f fd) : FnOk P w K mg base CX0 2 f fd ["_law_hand"] spOdd := by
  refine FN.ok scO (fun vs H Q E h => ?_) (fun cdv A outer s H vs Q E hr h => ?_)
  · obtain ⟨h, dr, rfl, _⟩ := h
    rfl
  · obtain ⟨h, dr, rfl, hh, q⟩ := h
    have hr1 : Room 1 _ := hr.mono (by decide)
    refine ⟨_, pss_one (ps_ret (pe_ix ix_list (pe_lst (pa_cons pe_non (pa_cons pe_bl (pa_cons (pe_un un_neg pe_int) (pa_cons pe_str (pa_cons (pe_tup pa_nil) (pa_cons (pe_lst pa_nil) (pa_cons (pe_op op_pow pe_int pe_int) (pa_cons pe_str
      (pa_cons (pe_tup (pa_cons pe_int pa_nil)) (pa_cons (pe_lst (pa_cons pe_int pa_nil)) (pa_cons pe_bl pa_nil))))))))))))
      (pe_call GT hr1 (by rfl) mT kT bT .nil pass0 (pa_cons (pv 0) (pa_cons pe_int pa_nil))) (fun _ _ => rfl))), ?_⟩
    refine ⟨1, rfl, Nat.zero_le _, fun t1 n1 => ?_⟩
    have a1 := same_upd (o := .tup []) n1
    have f1 : (upd H t1 (.tup [])) t1 = some (.tup []) := upd_same
    revert a1 f1
    generalize upd H t1 (.tup []) = H1
    intro a1 f1
    refine ⟨Nat.zero_le _, fun l1 n2 => ?_⟩
    have a2 := same_upd (o := .lst []) n2
    have f2 : (upd H1 l1 (.lst [])) l1 = some (.lst []) := upd_same
    revert a2 f2
    generalize upd H1 l1 (.lst []) = H2
    intro a2 f2
    refine ⟨_, _, rfl, rfl, ⟨by decide, by decide, by decide⟩, (by show 1 ≤ sizeLine; decide), fun t2 n3 => ?_⟩
    have a3 := same_upd (o := .tup [.int 1]) n3
    have f3 : (upd H2 t2 (.tup [.int 1])) t2 = some (.tup [.int 1]) := upd_same
    revert a3 f3
    generalize upd H2 t2 (.tup [.int 1]) = H3
    intro a3 f3
    refine ⟨(by show 1 ≤ sizeLine; decide), fun l2 n4 => ?_⟩
    have a4 := same_upd (o := .lst [.int 0]) n4
    have f4 : (upd H3 l2 (.lst [.int 0])) l2 = some (.lst [.int 0]) := upd_same
    revert a4 f4
    generalize upd H3 l2 (.lst [.int 0]) = H4
    intro a4 f4
    refine ⟨(by show 11 ≤ sizeLine; decide), fun l n5 => ?_⟩
    show tCall spTake [] E0 _ _ (upd H4 l (.lst [V.non, .bl true, .int (-1), .str "0", .ref t1, .ref l1, .int (10 ^ (30 : Int).toNat), .str "", .ref t2, .ref l2, .bl false])) _
    have a5 := same_upd (o := .lst [V.non, .bl true, .int (-1), .str "0", .ref t1, .ref l1, .int (10 ^ (30 : Int).toNat), .str "", .ref t2, .ref l2, .bl false]) n5
    have f5 : (upd H4 l (.lst [V.non, .bl true, .int (-1), .str "0", .ref t1, .ref l1, .int (10 ^ (30 : Int).toNat), .str "", .ref t2, .ref l2, .bl false])) l = some (.lst [V.non, .bl true, .int (-1), .str "0", .ref t1, .ref l1, .int (10 ^ (30 : Int).toNat), .str "", .ref t2, .ref l2, .bl false]) := upd_same
    revert a5 f5
    generalize upd H4 l (.lst [V.non, .bl true, .int (-1), .str "0", .ref t1, .ref l1, .int (10 ^ (30 : Int).toNat), .str "", .ref t2, .ref l2, .bl false]) = H5
    intro a5 f5
    have all := a1.trans (a2.trans (a3.trans (a4.trans a5)))
    have s0 := hh.same (a1.trans (a2.trans (a3.trans a4)))
    refine ⟨_, rfl, h, dr, 11, rfl, by decide, hh.same all, fun u H6 u0 u1 hh6 b6 => ?_⟩
    have pr : Paired (OddV H5) [V.non, .bl true, .int (-1), .str "0", .ref t1, .ref l1, .int (10 ^ (30 : Int).toNat), .str "", .ref t2, .ref l2, .bl false]
        ([.none, .bool true, .int (-1), .str "0", .tuple [], .list [], .int (10 ^ 30), .str "", .tuple [.int 1], .list [.int 0], .bool false] : List PyData) := by
      refine .cons .non (.cons (.bl true) (.cons (.int (-1)) (.cons (.str "0") (.cons (.tup [] ?_) (.cons (.lst [] ?_) (.cons ?_ (.cons (.str "") (.cons (.tup [1] ?_) (.cons (.lst [0] ?_) (.cons (.bl false) .nil))))))))))
      · exact (a2.trans (a3.trans (a4.trans a5))) _ _ f1
      · exact (a3.trans (a4.trans a5)) _ _ f2
      · rw [big_eq]
        exact .int _
      · exact (a4.trans a5) _ _ f3
      · exact a5 _ _ f4
    obtain ⟨x, d, hd, o, e⟩ := at_pr pr u0 u1
    exact ⟨l, _, u, x, rfl, rfl, lstK (but_new s0 n5 b6 f5), e, q x d H6 ((hh.same all).odd b6 o) (first_odd d hd) hh6 ((But.same all).trans b6)⟩

/-! ### _law_vector -/
theorem ok_vec {f : Addr} {fd : FuncData} (FN : Fun K "_law_vector" "_law_vector" sVec f fd) (B : Bl mg) : FnOk P w K mg base CX0 2 f fd ["_law_hand", "_law_prime_here", "_law_width"] spVec := by
  refine FN.ok scV (fun vs H Q E h => ?_) (fun cdv A outer s H vs Q E hr h => ?_)
  · obtain ⟨h, dr, p, w', rfl, _⟩ := h
    rfl
  · obtain ⟨h, dr, p, w', rfl, hp, hw, hh, q⟩ := h
    have hr1 : Room 1 _ := hr.mono (by decide)
    refine ⟨_, pss_one (ps_ret (pe_callTy (r := rTup K) call_tup (by rfl) B.tuple (by decide +kernel) (pa_cons (pe_lc (own := [("_law_k", 3)]) (g := gName 3) (tt := tYes) (te := tCall spTake [] E0 (tCons (tVar 0) (tCons (tVar 1) tNil))) rfl scV.nd (pi_range1 (by rfl) B.range (pa_cons (pv 2) pa_nil))
      (blkOk_by (N := ["_law_hand", "_law_prime_here", "_law_width", "_law_k"]) (sc := defScope sVec) (by decide +kernel)) (fun _ _ _ _ _ => pg_name (i := 3) scV.nd rfl (Or.inl rfl)) (fun _ _ _ _ _ => pts_nil)
      (fun _ _ _ _ _ => pe_call GT hr1 (by rfl) mT kT bT .nil pass0 (pa_cons (pv 0) (pa_cons (pv 1) pa_nil)))) pa_nil))), ?_⟩
    refine ⟨_, rfl, (w' : Int), rfl, by omega, by omega, fun D hD => lc_range (lo := 0) (n := w')
      (fun i H' => But h H H' ∧ Hand h dr H' ∧ ∃ acc : List Int, H' D = some (.lst (acc.map .int)) ∧ acc.length = i ∧ ∀ x ∈ acc, 0 ≤ x ∧ x < p) ?_ ?_ ?_⟩
    · exact ⟨But.same (same_upd hD), hh.same (same_upd hD), [], upd_same, rfl, fun x hx => nomatch hx⟩
    · rintro i H1 hi ⟨b1, hh1, acc, hacc, hl, hx⟩
      refine ⟨rfl, _, rfl, _, rfl, h, dr, p, rfl, hp, hh1, fun v H2 v0 v1 hh2 b2 => ?_⟩
      obtain ⟨nDh, nDdr⟩ := hh.new hD
      have hacc2 := b2 D _ nDh hacc
      refine ⟨acc.map .int, hacc2, by rw [List.length_map, sizeLine_eq]; omega, ?_, ?_, acc ++ [v], by rw [upd_same, List.map_append]; rfl, by rw [List.length_append, hl]; rfl, fun x m => ?_⟩
      · exact (b1.trans b2).upd hD
      · exact hh2.upd nDh nDdr
      · rcases List.mem_append.mp m with m | m
        · exact hx x m
        · rw [List.mem_singleton.mp m]
          exact ⟨v0, v1⟩
    · rintro H1 ⟨b1, hh1, acc, hacc, hl, hx⟩
      refine ⟨D, acc.map .int, rfl, .inl ⟨lstK hacc, fun l hl' => ?_⟩⟩
      exact q _ acc _ ⟨l, rfl, upd_same⟩ hl hx (hh1.same (same_upd hl')) (b1.trans (But.same (same_upd hl')))
end
end
end ND2

set_option Elab.async false
set_option linter.all false
set_option maxRecDepth 100000
set_option maxHeartbeats 4000000
/-! _law_net, _law_like. -/
namespace NE
open PySem PySem.Spec PyProof.Rows L2 ND NR NH NA NB NC ND2
section
variable {P : Program} {w : World} {K : PySem.W.Frag} {mg : Str → Option Value} {base : Heap} {C CX : Addr}
/-! ### _law_like -/
theorem scK : FnScope ["_law_own"] ["_law_own"] (defScope sLike) := ⟨rfl, rfl, rfl, by decide +kernel, rfl, by decide +kernel, by decide +kernel⟩
theorem shape_small {p : Int} {W : List Mat} {ks : List Str} (S : Shape p W ks) : primeB p = true ∧ W.length ≤ 100 ∧ ∀ m ∈ W, m.length ≤ 100 :=
  ⟨(primes_ok p S.prime).1, by have := S.most; omega, fun m hm => by have := (S.rows m hm).1; omega⟩
/-- all but the new instance is as it was -/
theorem same_made {H H' : Hp} {x dx C : Addr} {fs : List (Str × V)} (nx : H x = none) (ndx : H dx = none) (k : ∀ b o, b ≠ x → (upd (upd H dx (.own x)) x (.ins C dx fs)) b = some o → H' b = some o) : Same H H' := fun b o e => by
  have b1 : b ≠ x := ne_of_none e nx
  refine k b o b1 ?_
  rw [upd_ne b1, upd_ne (ne_of_none e ndx)]
  exact e
theorem ok_like {f fN : Addr} {fd fdN : FuncData} (FN : Fun K "_law_like" "_law_like" sLike f fd) (T : Nt K mg C) (M : Mk K C fN) (GN : FnOk P w K mg base (L2.CX P w) 3 fN fdN ["self", "prime", "weights", "kinds"] (spNI C CX))
    (bN : Binds K fdN ["self", "prime", "weights", "kinds"] []) : FnOk P w K mg base CX0 5 f fd ["_law_own"] (spLike C) := by
  refine FN.ok scK (fun vs H Q E h => ?_) (fun cdv A outer s H vs Q E hr h => ?_)
  · obtain ⟨o, p, W, ks, rfl, _⟩ := h
    rfl
  · obtain ⟨o, p, W, ks, rfl, S, ⟨w', k', ho, hw, hk⟩, q⟩ := h
    obtain ⟨s1, s2, s3⟩ := shape_small S
    refine ⟨_, pss_one (ps_ret (pe_make M GN hr (by rfl) T.mgC bN .nil passL (pa_cons (pe_ix ix_tup (pv 0) pe_int (fun _ _ => rfl)) (pa_cons (pe_ix ix_tup (pv 0) pe_int (fun _ _ => rfl)) (pa_cons (pe_ix ix_tup (pv 0) pe_int (fun _ _ => rfl)) pa_nil))))), ?_⟩
    refine ⟨_, rfl, o, _, 0, .int p, rfl, rfl, tupK ho, rfl, _, rfl, o, _, 1, w', rfl, rfl, tupK ho, rfl, _, rfl, o, _, 2, k', rfl, rfl, tupK ho, rfl, fun x dx nx ndx ne => ?_⟩
    have sm : Same H (upd (upd H dx (.own x)) x (.ins C dx [])) := (same_upd ndx).trans (same_upd (by rw [upd_ne ne.symm]; exact nx))
    refine ⟨x, dx, .int p, w', k', W, ks, rfl, upd_same, by rw [upd_ne ne, upd_same], .inl ⟨p, rfl, s1, s2, s3, (hw.mono (Tk.of sm)).s, (hk.mono (Tk.of sm)).s, fun H' kp hN => ⟨rfl, ?_⟩⟩⟩
    exact q x H' (same_made nx ndx kp) nx hN

/-! ### _law_net -/
theorem scN : FnScope ["_law_hand", "_law_most", "_law_prime_here", "_law_width", "_law_weights", "_law_kinds", "_law_layer", "_law_k"] ["_law_hand", "_law_most"] (defScope sNet) := ⟨rfl, rfl, rfl, by decide +kernel, rfl, by decide +kernel, by decide +kernel⟩
/-- behind i layers -/
structure Lay (h dr lw lk : Addr) (p : Int) (n : Nat) (H : Hp) (i : Nat) (H' : Hp) : Prop where
  but : But h H H'
  hand : Hand h dr H'
  ws : ∃ (vs : List V) (W : List Mat), H' lw = some (.lst vs) ∧ Paired (MatT H') vs W ∧ W.length = i ∧ ∀ m ∈ W, m.length = n ∧ ∀ r ∈ m, r.length = n ∧ ∀ x ∈ r, 0 ≤ x ∧ x < p
  ks : ∃ ks : List Str, H' lk = some (.lst (ks.map .str)) ∧ ks.length = i ∧ ∀ k ∈ ks, k = ("line" : Str) ∨ k = ("square" : Str)
/-- behind i rows of a matrix, made in the list at D -/
structure MRows (h dr D : Addr) (p : Int) (n : Nat) (H : Hp) (i : Nat) (H' : Hp) : Prop where
  but : But h H H'
  hand : Hand h dr H'
  rows : ∃ (vs : List V) (m : Mat), H' D = some (.lst vs) ∧ Paired (RowT H') vs m ∧ m.length = i ∧ ∀ r ∈ m, r.length = n ∧ ∀ x ∈ r, 0 ≤ x ∧ x < p
theorem line_square : ∀ k ∈ (["line", "square"] : List Str), k = ("line" : Str) ∨ k = ("square" : Str) := fun k hk => by
  simp at hk
  exact hk
section
variable {fT fP fV : Addr} {fdT fdP fdV : FuncData} (GT : FnOk P w K mg base CX0 1 fT fdT ["_law_hand", "_law_many"] spTake) (bT : Binds K fdT ["_law_hand", "_law_many"] []) (mT : mg "_law_take" = some (.ref fT)) (kT : PySem.W.keepIn K (.ref fT) = true)
  (GP : FnOk P w K mg base CX0 2 fP fdP ["_law_hand"] spLPrime) (bP : Binds K fdP ["_law_hand"] []) (mP : mg "_law_prime" = some (.ref fP)) (kP : PySem.W.keepIn K (.ref fP) = true)
  (GV : FnOk P w K mg base CX0 2 fV fdV ["_law_hand", "_law_prime_here", "_law_width"] spVec) (bV : Binds K fdV ["_law_hand", "_law_prime_here", "_law_width"] []) (mV : mg "_law_vector" = some (.ref fV)) (kV : PySem.W.keepIn K (.ref fV) = true)
include GT bT mT kT GP bP mP kP GV bV mV kV
theorem ok_net {f : Addr} {fd : FuncData} (FN : Fun K "_law_net" "_law_net" sNet f fd) (B : Bl mg) : FnOk P w K mg base CX0 3 f fd ["_law_hand", "_law_most"] spNet := by
  refine FN.ok scN (fun vs H Q E h => ?_) (fun cdv A outer s H vs Q E hr h => ?_)
  · obtain ⟨h, dr, rfl, _⟩ := h
    rfl
  · obtain ⟨h, dr, rfl, hh, q⟩ := h
    have hr1 : Room 1 _ := hr.mono (by decide)
    refine ⟨_, pss_cons (ps_set (i := 2) scN.nd rfl (Or.inr rfl) (pe_call GP hr (by rfl) mP kP bP .nil pass0 (pa_cons (pv 0) pa_nil)))
      (pss_cons (ps_set (i := 3) scN.nd rfl (Or.inr rfl) (pe_op op_add pe_int (pe_call GT hr1 (by rfl) mT kT bT .nil pass0 (pa_cons (pv 0) (pa_cons pe_int pa_nil)))))
      (pss_cons (ps_set (i := 4) scN.nd rfl (Or.inl rfl) (pe_lst pa_nil))
      (pss_cons (ps_set (i := 5) scN.nd rfl (Or.inl rfl) (pe_lst pa_nil))
      (pss_cons (ps_for PassesOwn.never rfl (pi_range1 (by rfl) B.range (pa_cons (pe_op op_add pe_int (pe_call GT hr1 (by rfl) mT kT bT .nil pass0 (pa_cons (pv 0) (pa_cons (pv 1) pa_nil)))) pa_nil)) (pg_name (i := 6) scN.nd rfl (Or.inl rfl))
        (pss_cons (ps_expr (pe_bm PySem.F.plainAttrs_list PySem.F.slot_list_append PySem.F.type_list_append mt_append (pv 4) (pa_cons (pe_callTy (r := rTup K) call_tup (by rfl) B.tuple (by decide +kernel) (pa_cons
            (pe_lc (own := [("_law_k", 7)]) (g := gName 7) (tt := tYes) (te := tCall spVec [] E0 (tCons (tVar 0) (tCons (tVar 2) (tCons (tVar 3) tNil)))) rfl scN.nd (pi_range1 (by rfl) B.range (pa_cons (pv 3) pa_nil))
              (blkOk_by (N := ["_law_hand", "_law_most", "_law_prime_here", "_law_width", "_law_weights", "_law_kinds", "_law_layer", "_law_k"]) (sc := defScope sNet) (by decide +kernel)) (fun _ _ _ _ _ => pg_name (i := 7) scN.nd rfl (Or.inl rfl)) (fun _ _ _ _ _ => pts_nil)
              (fun _ _ _ _ _ => pe_call GV hr (by rfl) mV kV bV .nil pass0 (pa_cons (pv 0) (pa_cons (pv 2) (pa_cons (pv 3) pa_nil))))) pa_nil)) pa_nil)))
        (pss_one (ps_expr (pe_bm PySem.F.plainAttrs_list PySem.F.slot_list_append PySem.F.type_list_append mt_append (pv 5) (pa_cons (pe_ix ix_list (pe_lst (pa_cons pe_str (pa_cons pe_str pa_nil))) (pe_call GT hr1 (by rfl) mT kT bT .nil pass0 (pa_cons (pv 0) (pa_cons pe_int pa_nil))) (fun _ _ => rfl)) pa_nil))))))
      (pss_one (ps_ret (pe_tup (pa_cons (pv 2) (pa_cons (pe_callTy (r := rTup K) call_tup (by rfl) B.tuple (by decide +kernel) (pa_cons (pv 4) pa_nil)) (pa_cons (pe_callTy (r := rTup K) call_tup (by rfl) B.tuple (by decide +kernel) (pa_cons (pv 5) pa_nil)) pa_nil)))))))))), ?_⟩
    refine ⟨_, rfl, h, dr, rfl, hh, fun p H1 hp hh1 b1 => ?_⟩
    have hpp := primes_ok p hp
    refine ⟨_, rfl, h, dr, 3, rfl, by decide, hh1, fun v H2 v0 v1 hh2 b2 => ⟨_, _, rfl, rfl, ?_⟩⟩
    obtain ⟨n, hn⟩ : ∃ n : Nat, 1 + v = (n : Int) := ⟨(1 + v).toNat, by omega⟩
    have n1 : 1 ≤ n := by omega
    have n3 : n ≤ 3 := by omega
    refine ⟨Nat.zero_le _, fun lw nlw => ⟨Nat.zero_le _, fun lk nlk => ?_⟩⟩
    have dlk : lk ≠ lw := fun z => by
      rw [z, upd_same] at nlk
      cases nlk
    have nlk2 : H2 lk = none := by rw [upd_ne dlk] at nlk; exact nlk
    have s3 : Same H2 (upd (upd H2 lw (.lst [])) lk (.lst [])) := (same_upd nlw).trans (same_upd nlk)
    have e3w : (upd (upd H2 lw (.lst [])) lk (.lst [])) lw = some (.lst []) := by rw [upd_ne dlk.symm, upd_same]
    have e3k : (upd (upd H2 lw (.lst [])) lk (.lst [])) lk = some (.lst []) := upd_same
    have hh3 := hh2.same s3
    obtain ⟨wh, wd⟩ := hh2.new nlw
    obtain ⟨kh, kd⟩ := hh2.new nlk2
    refine ⟨_, rfl, _, rfl, h, dr, 6, rfl, by decide, hh3, fun u H4 u0 u1 hh4 b4 => ⟨_, _, rfl, rfl, (1 + u), rfl, by omega, by omega, ?_⟩⟩
    obtain ⟨L, hL⟩ : ∃ L : Nat, (1 + u).toNat = L := ⟨_, rfl⟩
    have b14 : But h H H4 := b1.trans (b2.trans ((But.same s3).trans b4))
    have z4 : Lay h dr lw lk p n H 0 H4 := ⟨b14, hh4, ⟨[], [], b4 _ _ wh e3w, .nil, rfl, fun m hm => nomatch hm⟩, ⟨[], b4 _ _ kh e3k, rfl, fun k hk => nomatch hk⟩⟩
    have fw : H lw = none := hh.free (b1.trans b2) nlw (hand_in hh2)
    have fk : H lk = none := hh.free (b1.trans b2) nlk2 (hand_in hh2)
    show _
    rw [show (fun (i : Int) (j : Int) => V.int (i + j)) 1 v = V.int (n : Int) from congrArg V.int hn]
    refine for_range (lo := 0) (n := (1 + u).toNat) (fun i σ H' => (∃ lv : Option V, σ = [some (.ref h), some (.int 6), some (.int p), some (.int (n : Int)), some (.ref lw), some (.ref lk), lv, none]) ∧ Lay h dr lw lk p n H i H') ⟨⟨_, rfl⟩, z4⟩ ?_ ?_
    · rintro i σ H5 hi ⟨⟨lv, rfl⟩, Z⟩
      obtain ⟨vs, W, hvs, hW, hWl, hWs⟩ := id Z.ws
      refine ⟨_, rfl, .inl ⟨rfl, _, lstK hvs⟩, ?_⟩
      refine ⟨_, rfl, (n : Int), rfl, by omega, by omega, fun D hD => lc_range (lo := 0) (n := n) (MRows h dr D p n H5) ?_ ?_ ?_⟩
      · exact ⟨But.same (same_upd hD), Z.hand.same (same_upd hD), [], [], upd_same, .nil, rfl, fun r hr => nomatch hr⟩
      · rintro j H6 hj ⟨b6, hh6, rs, m, hrs, hm, hml, hms⟩
        refine ⟨rfl, _, rfl, _, rfl, _, rfl, h, dr, p, n, rfl, by omega, by omega, hh6, fun x r H7 hx hrl hrx hh7 b7 => ?_⟩
        obtain ⟨nDh, nDdr⟩ := Z.hand.new hD
        have hD7 := b7 _ _ nDh hrs
        have tk := hh6.tk b7
        have tk2 : Tk H7 (upd H7 D (.lst (rs ++ [x]))) := tk_push hD7
        refine ⟨rs, hD7, by rw [pr_len hm, sizeLine_eq]; omega, (b6.trans b7).upd hD, hh7.upd nDh nDdr, rs ++ [x], m ++ [r], upd_same, pr_snoc (hx.mono tk2) (pr_mono (fun _ _ => RowT.mono (tk.trans tk2)) hm), by rw [List.length_append, hml]; rfl, fun r' hr' => ?_⟩
        rcases List.mem_append.mp hr' with hr' | hr'
        · exact hms r' hr'
        · rw [List.mem_singleton.mp hr']
          exact ⟨hrl, hrx⟩
      · rintro H6 ⟨b6, hh6, rs, m, hrs, hm, hml, hms⟩
        refine ⟨D, rs, rfl, .inl ⟨lstK hrs, fun t ht => ?_⟩⟩
        have st := same_upd (o := .tup rs) ht
        have hw6 := b6 _ _ wh hvs
        have hw7 := st _ _ hw6
        have tk67 := (Z.hand.tk b6).trans (Tk.of st)
        refine ⟨lw, vs, .ref t, rfl, rfl, hw7, by rw [pr_len hW, hWl, sizeLine_eq]; omega, ?_⟩
        have tk78 : Tk (upd H6 t (.tup rs)) (upd (upd H6 t (.tup rs)) lw (.lst (vs ++ [V.ref t]))) := tk_push hw7
        have mt : MatT (upd H6 t (.tup rs)) (.ref t) m := ⟨t, rs, rfl, upd_same, pr_mono (fun _ _ => RowT.mono (Tk.of st)) hm⟩
        have hh8 : Hand h dr (upd (upd H6 t (.tup rs)) lw (.lst (vs ++ [V.ref t]))) := (hh6.same st).upd wh wd
        have b8 : But h H (upd (upd H6 t (.tup rs)) lw (.lst (vs ++ [V.ref t]))) := (Z.but.trans (b6.trans (But.same st))).upd fw
        obtain ⟨ks, hks, hksl, hkss⟩ := id Z.ks
        have hk8 : (upd (upd H6 t (.tup rs)) lw (.lst (vs ++ [V.ref t]))) lk = some (.lst (ks.map .str)) := by
          rw [upd_ne dlk]
          exact st _ _ (b6 _ _ kh hks)
        have hW8 : Paired (MatT (upd (upd H6 t (.tup rs)) lw (.lst (vs ++ [V.ref t])))) (vs ++ [.ref t]) (W ++ [m]) := pr_snoc (mt.mono tk78) (pr_mono (fun _ _ => MatT.mono (tk67.trans tk78)) hW)
        have hw8 : (upd (upd H6 t (.tup rs)) lw (.lst (vs ++ [V.ref t]))) lw = some (.lst (vs ++ [.ref t])) := upd_same
        revert hh8 b8 hk8 hW8 hw8
        generalize upd (upd H6 t (.tup rs)) lw (.lst (vs ++ [V.ref t])) = H8
        intro hh8 b8 hk8 hW8 hw8
        -- the kind
        refine ⟨_, rfl, .inl ⟨rfl, _, lstK hk8⟩, (by show 2 ≤ sizeLine; decide), fun l hl => ?_⟩
        have sl := same_upd (o := .lst [V.str "line", .str "square"]) hl
        refine ⟨_, rfl, h, dr, 2, rfl, by decide, hh8.same sl, fun u2 H9 u20 u21 hh9 b9 => ?_⟩
        obtain ⟨kk, hkk, ek⟩ := at_map (f := V.str) (l := (["line", "square"] : List Str)) u20 u21
        have b89 : But h H8 H9 := (But.same sl).trans b9
        have hk9 := b89 _ _ kh hk8
        refine ⟨l, (["line", "square"] : List Str).map .str, u2, .str kk, rfl, rfl, lstK (but_new hh8 hl b9 upd_same), ek, lk, ks.map .str, .str kk, rfl, rfl, hk9, by rw [List.length_map, hksl, sizeLine_eq]; omega, ?_⟩
        have tk9 : Tk H9 (upd H9 lk (.lst (ks.map .str ++ [V.str kk]))) := tk_push hk9
        refine ⟨⟨_, rfl⟩, (b8.trans b89).upd fk, hh9.upd kh kd, ⟨vs ++ [.ref t], W ++ [m], by rw [upd_ne dlk.symm]; exact b89 _ _ wh hw8, pr_mono (fun _ _ => MatT.mono ((hh8.tk b89).trans tk9)) hW8, by rw [List.length_append, hWl]; rfl, fun m' hm' => ?_⟩,
          ⟨ks ++ [kk], by rw [upd_same, List.map_append]; rfl, by rw [List.length_append, hksl]; rfl, fun k' hk' => ?_⟩⟩
        · rcases List.mem_append.mp hm' with hm' | hm'
          · exact hWs m' hm'
          · rw [List.mem_singleton.mp hm']
            exact ⟨hml, hms⟩
        · rcases List.mem_append.mp hk' with hk' | hk'
          · exact hkss k' hk'
          · rw [List.mem_singleton.mp hk']
            exact line_square kk hkk
    · rintro σ H5 ⟨⟨lv, rfl⟩, Z⟩
      obtain ⟨vs, W, hvs, hW, hWl, hWs⟩ := id Z.ws
      obtain ⟨ks, hks, hksl, hkss⟩ := id Z.ks
      refine ⟨_, rfl, _, rfl, lw, vs, rfl, .inl ⟨lstK hvs, fun t nt => ?_⟩⟩
      have st := same_upd (o := .tup vs) nt
      refine ⟨_, rfl, lk, ks.map .str, rfl, .inl ⟨lstK (st _ _ hks), fun t2 nt2 => ⟨(by show 3 ≤ sizeLine; decide), fun t3 nt3 => ?_⟩⟩⟩
      have st2 := st.trans (same_upd (o := .tup (ks.map .str)) nt2)
      have st3 := st2.trans (same_upd (o := .tup [V.int p, .ref t, .ref t2]) nt3)
      have tk3 := Tk.of st3
      refine q t3 p W ks _ ⟨hp, by omega, by omega, ⟨n, n1, n3, hWs⟩, by omega, hkss⟩ ⟨.ref t, .ref t2, upd_same, ⟨t, vs, rfl, ?_, pr_mono (fun _ _ => MatT.mono tk3) hW⟩, ⟨t2, rfl, ?_⟩⟩ (Z.hand.same st3) (Z.but.trans (But.same st3))
      · exact (same_upd nt3) _ _ ((same_upd nt2) _ _ upd_same)
      · exact (same_upd nt3) _ _ upd_same
end
end
end NE

set_option Elab.async false
set_option linter.all false
set_option maxRecDepth 100000
set_option maxHeartbeats 4000000
/-! _law_draws: some list of whole numbers. -/
namespace NF
open PySem PySem.Spec PyProof.Rows L2 ND NR NH NA NB NC ND2
section
variable {P : Program} {w : World} {K : PySem.W.Frag} {mg : Str → Option Value} {base : Heap}
theorem scD : FnScope ["_law_script", "_law_many", "_law_cell", "_law_rests", "_law_draws_here", "_law_k", "_law_spot", "_law_mixed"] ["_law_script", "_law_many"] (defScope sDraws) := ⟨rfl, rfl, rfl, by decide +kernel, rfl, by decide +kernel, by decide +kernel⟩
/-- abs(x), int(x) of an int, by their readings -/
def rAbs : List V → Hp → VK → Prop := fun xs H Q => ∃ i, xs = [.int i] ∧ Q (.int (if i < 0 then -i else i)) H
theorem call_abs' {X : Cx} : CallR X (.builtin "abs") rAbs := call_abs
def rInt : List V → Hp → VK → Prop := fun xs H Q => (∃ i, xs = [.int i] ∧ Q (.int i) H) ∨ ∃ k, xs = [.bl k] ∧ Q (.int (if k then 1 else 0)) H
theorem call_int' {X : Cx} : CallR X (.type "int") rInt := call_int1
/-- what stands between two turns -/
structure Dr (H : Hp) (lr ld : Addr) (n i : Nat) (H' : Hp) : Prop where
  same : Same H H'
  rs : ∃ rs : List Int, H' lr = some (.lst (rs.map .int)) ∧ rs.length = n
  ds : ∃ ds : List Int, H' ld = some (.lst (ds.map .int)) ∧ ds.length ≤ i
theorem ok_draws {f : Addr} {fd : FuncData} (FN : Fun K "_law_draws" "_law_draws" sDraws f fd) (B : Bl mg) : FnOk P w K mg base CX0 1 f fd ["_law_script", "_law_many"] (spDraws K) := by
  refine FN.ok scD (fun vs H Q E h => ?_) (fun cdv A outer s H vs Q E hr h => ?_)
  · obtain ⟨a, ns, rfl, _⟩ := h
    rfl
  · obtain ⟨a, ns, rfl, hS, hn, q⟩ := h
    refine ⟨_, pss_cons (ps_setLc (i := 3) (own := [("_law_cell", 2)]) (g := gName 2) (tt := tYes) (te := tCB rAbs (tCons (tCB rInt (tCons (tVar 2) tNil)) tNil)) rfl scD.nd rfl rfl (sw_true rfl rfl rfl (by decide +kernel)) (pi_list (pv 0))
        (blkOk_by (N := ["_law_script", "_law_many", "_law_cell", "_law_rests", "_law_draws_here", "_law_k", "_law_spot", "_law_mixed"]) (sc := defScope sDraws) (by decide +kernel)) (fun _ _ _ _ _ => pg_name (i := 2) scD.nd rfl (Or.inl rfl)) (fun _ _ _ _ _ => pts_nil)
        (fun _ _ _ _ _ => pe_callB (r := rAbs) call_abs' (by rfl) B.abs (by decide +kernel) (pa_cons (pe_callTy (r := rInt) call_int' (by rfl) B.int (by decide +kernel) (pa_cons (pv 2) pa_nil)) pa_nil)))
      (pss_cons (ps_set (i := 4) scD.nd rfl (Or.inl rfl) (pe_lst pa_nil))
      (pss_cons (ps_for PassesOwn.never rfl (pi_range1 (by rfl) B.range (pa_cons (pv 1) pa_nil)) (pg_name (i := 5) scD.nd rfl (Or.inl rfl))
        (pss_cons (ps_set (i := 2) scD.nd rfl (Or.inl rfl) (pv 5))
        (pss_cons (ps_if (pt_cmpR op_gt (pe_callB call_len_seq (by rfl) B.len PySem.boot_len (pa_cons (pv 0) pa_nil)) pe_int (nomark _))
          (pss_cons (ps_set (i := 6) scD.nd rfl (Or.inl rfl) (pe_op op_mod (pv 5) (pe_callB call_len_seq (by rfl) B.len PySem.boot_len (pa_cons (pv 0) pa_nil))))
          (pss_cons (ps_set (i := 2) scD.nd rfl (Or.inl rfl) (pe_callTy (r := rInt) call_int' (by rfl) B.int (by decide +kernel) (pa_cons (pe_ix ix_list (pv 0) (pv 6) (fun _ _ => rfl)) pa_nil)))
          (pss_one (ps_if (PW.pt (pw_and (pt_cmpR op_ge (pv 2) (pe_op op_pow pe_int pe_int) (nomark _)) (pw_and1 (pt_cmpR op_gt (pe_ix ix_list (pv 3) (pv 6) (fun _ _ => rfl)) pe_int (nomark _)))))
            (pss_cons (ps_expr (pe_bm PySem.F.plainAttrs_list PySem.F.slot_list_append PySem.F.type_list_append mt_append (pv 4) (pa_cons (pe_op op_mod (pe_callTy (r := rInt) call_int' (by rfl) B.int (by decide +kernel) (pa_cons (pe_ix ix_list (pv 3) (pv 6) (fun _ _ => rfl)) pa_nil)) pe_int) pa_nil)))
            (pss_cons (ps_asg (pe_op op_fdiv (pe_callTy (r := rInt) call_int' (by rfl) B.int (by decide +kernel) (pa_cons (pe_ix ix_list (pv 3) (pv 6) (fun _ _ => rfl)) pa_nil)) pe_int) (pg_sub (pv 3) (pv 6) set_list))
            (pss_one ps_continue))) pss_nil))))
          pss_nil)
        (pss_cons (ps_set (i := 7) scD.nd rfl (Or.inl rfl) (pe_op op_mod (pe_callTy (r := rInt) call_int' (by rfl) B.int (by decide +kernel) (pa_cons (pe_op op_add (pe_op op_add (pe_op op_mul (pv 2) pe_int) (pe_op op_mul (pv 5) pe_int)) pe_int) pa_nil)) pe_int))
        (pss_cons (ps_set (i := 7) scD.nd rfl (Or.inl rfl) (pe_op op_mod (pe_callTy (r := rInt) call_int' (by rfl) B.int (by decide +kernel) (pa_cons (pe_op op_add (pe_op op_fdiv (pe_op op_mul (pv 7) (pv 7)) pe_int) (pv 7)) pa_nil)) pe_int))
        (pss_one (ps_expr (pe_bm PySem.F.plainAttrs_list PySem.F.slot_list_append PySem.F.type_list_append mt_append (pv 4) (pa_cons (pe_op op_mod (pe_callTy (r := rInt) call_int' (by rfl) B.int (by decide +kernel) (pa_cons (pe_op op_add (pe_op op_fdiv (pe_op op_mul (pv 7) (pv 7)) pe_int) (pe_op op_mul (pv 5) pe_int)) pa_nil)) pe_int) pa_nil)))))))))
      (pss_one (ps_ret (pv 4))))), ?_⟩
    refine ⟨_, rfl, a, rfl, ⟨_, hS⟩, fun D hD => lc_list (K := K) (a := a) (xs := ns.map V.int) (fun i H' => Same H H' ∧ ∃ rs : List Int, H' D = some (.lst (rs.map .int)) ∧ rs.length = i)
      ⟨same_upd hD, [], upd_same, rfl⟩ (fun i H' _ z => z.1.seq hS) ?_ ?_⟩
    · rintro i x H1 hx ⟨s1, rs, hrs, hl⟩
      have hi : i < ns.length := by
        have := (List.getElem?_eq_some_iff.mp hx).1
        rwa [List.length_map] at this
      obtain ⟨z, rfl⟩ : ∃ z, x = V.int z := by
        rw [List.getElem?_map] at hx
        cases e : ns[i]? with
        | none => rw [e] at hx; cases hx
        | some z => rw [e] at hx; exact ⟨z, (Option.some.inj hx).symm⟩
      refine ⟨rfl, _, rfl, .inl ⟨z, rfl, _, rfl, rs.map .int, hrs, by rw [List.length_map, hl, sizeLine_eq]; omega, ?_⟩⟩
      exact ⟨same_push s1 hD, rs ++ [if z < 0 then -z else z], by rw [upd_same, List.map_append]; rfl, by rw [List.length_append, hl]; rfl⟩
    · rintro H1 ⟨s1, rs0, hrs0, hl0⟩
      rw [List.length_map] at hl0
      refine ⟨Nat.zero_le _, fun ld nld => ?_⟩
      have nDl : D ≠ ld := ne_of_none hrs0 nld
      have nldH : H ld = none := s1.free nld
      refine ⟨_, rfl, 120, rfl, by decide, by decide, for_range (lo := 0) (n := 120) (fun i σ H' => (∃ c kv sp mx : Option V, σ = [some (.ref a), some (.int 120), c, some (.ref D), some (.ref ld), kv, sp, mx]) ∧ Dr H D ld ns.length i H') ?_ ?_ ?_⟩
      · exact ⟨⟨_, _, _, _, rfl⟩, s1.trans (same_upd nld), ⟨rs0, by rw [upd_ne nDl]; exact hrs0, hl0⟩, ⟨[], upd_same, Nat.zero_le _⟩⟩
      · rintro i σ H2 hi ⟨⟨c, kv, sp, mx, rfl⟩, Z⟩
        obtain ⟨rs, hrs, hrl⟩ := id Z.rs
        obtain ⟨ds, hds, hdl⟩ := id Z.ds
        have sz : (ds.map V.int).length < sizeLine := by
          rw [List.length_map, sizeLine_eq]
          omega
        have mb : ∀ X : Int, -(2 ^ 64) < X % 2147483629 ∧ X % 2147483629 < 2 ^ 64 := fun X => ⟨by omega, by omega⟩
        have mc : ∀ X : Int, -(2 ^ 64) < X % 2147483647 ∧ X % 2147483647 < 2 ^ 64 := fun X => ⟨by omega, by omega⟩
        have push : ∀ z : Int, Dr H D ld ns.length (i + 1) (upd H2 ld (.lst (ds.map .int ++ [V.int z]))) := fun z =>
          ⟨same_push Z.same nldH, ⟨rs, by rw [upd_ne nDl]; exact hrs, hrl⟩, ⟨ds ++ [z], by rw [upd_same, List.map_append]; rfl, by rw [List.length_append]; show ds.length + 1 ≤ i + 1; omega⟩⟩
        refine ⟨_, rfl, _, rfl, a, ns.map .int, rfl, .inl (Z.same.seq hS), _, _, rfl, rfl, _, rfl, ?_⟩
        by_cases hz : 0 < ns.length
        · have e0 : decide ((0 : Int) < ((ns.map V.int).length : Int)) = true := decide_eq_true (by rw [List.length_map]; omega)
          rw [e0]
          refine iteT ?_
          obtain ⟨j, hj⟩ : ∃ j : Nat, (0 + (i : Int)) % ((ns.map V.int).length : Int) = (j : Int) := ⟨((0 + (i : Int)) % ((ns.map V.int).length : Int)).toNat, by
            rw [Int.toNat_of_nonneg (Int.emod_nonneg _ (by rw [List.length_map]; omega))]⟩
          have jl : j < ns.length := by
            have := Int.emod_lt_of_pos (0 + (i : Int)) (show (0 : Int) < ((ns.map V.int).length : Int) by rw [List.length_map]; omega)
            rw [hj, List.length_map] at this
            omega
          obtain ⟨z, hz'⟩ : ∃ z, ns[j]? = some z := ⟨ns[j], List.getElem?_eq_getElem jl⟩
          obtain ⟨r, hr'⟩ : ∃ r, rs[j]? = some r := ⟨rs[j]'(by omega), List.getElem?_eq_getElem (by omega)⟩
          have ez : atI (ns.map V.int) (j : Int) = some (.int z) := atI_nat (by rw [List.getElem?_map, hz']; rfl)
          have er : atI (rs.map V.int) (j : Int) = some (.int r) := atI_nat (by rw [List.getElem?_map, hr']; rfl)
          refine ⟨_, rfl, _, rfl, a, ns.map .int, rfl, .inl (Z.same.seq hS), _, _, rfl, rfl, by rw [List.length_map]; omega, ?_⟩
          refine ⟨_, rfl, _, rfl, a, ns.map .int, (j : Int), .int z, rfl, congrArg V.int hj, Z.same.seq hS, ez, .inl ⟨z, rfl, ?_⟩⟩
          refine ⟨_, rfl, _, _, rfl, rfl, ⟨by decide, by decide, by decide⟩, _, _, rfl, rfl, _, rfl, ?_⟩
          by_cases c1 : (10 : Int) ^ (18 : Int).toNat ≤ z
          · rw [decide_eq_true c1]
            refine iteT ⟨_, rfl, _, rfl, D, rs.map .int, (j : Int), .int r, rfl, congrArg V.int hj, lstK hrs, er, _, _, rfl, rfl, _, rfl, ?_⟩
            by_cases c2 : (0 : Int) < r
            · rw [decide_eq_true c2]
              refine iteT ?_
              refine ⟨_, rfl, .inl ⟨rfl, _, lstK hds⟩, _, rfl, _, rfl, D, rs.map .int, (j : Int), .int r, rfl, congrArg V.int hj, lstK hrs, er, .inl ⟨r, rfl, _, _, rfl, rfl, (by show (0 : Int) < _; decide), ld, ds.map .int, _, rfl, rfl, hds, sz, ?_⟩⟩
              have hD3 : (upd H2 ld (.lst (ds.map .int ++ [V.int (r % 1000003)]))) D = some (.lst (rs.map .int)) := by rw [upd_ne nDl]; exact hrs
              refine ⟨_, rfl, _, rfl, D, rs.map .int, (j : Int), .int r, rfl, congrArg V.int hj, lstK hD3, er, .inl ⟨r, rfl, _, _, rfl, rfl, ⟨by decide, by decide⟩, _, rfl, _, rfl, D, rs.map .int, (j : Int), j, rfl, congrArg V.int hj, hD3, ?_, ?_⟩⟩
              · unfold ixN
                rw [List.length_map, if_pos (by omega), if_pos (by omega)]
                rfl
              · refine ⟨⟨_, _, _, _, rfl⟩, fun b o e => ?_, ⟨rs.set j (r / 1000003), by rw [upd_same, ← List.map_set], by rw [List.length_set]; exact hrl⟩, ⟨ds ++ [r % 1000003], ?_, by rw [List.length_append]; show ds.length + 1 ≤ i + 1; omega⟩⟩
                · rw [upd_ne (ne_of_none e hD), upd_ne (ne_of_none e nldH)]
                  exact Z.same b o e
                · rw [upd_ne nDl.symm, upd_same, List.map_append]
                  rfl
            · rw [decide_eq_false c2]
              refine iteF ?_
              refine ⟨_, rfl, _, _, rfl, rfl, .inr ⟨by decide, by decide⟩, _, rfl, _, _, rfl, rfl, .inr ⟨by decide, by decide⟩, _, _, rfl, rfl, _, _, rfl, rfl, .inl ⟨_, rfl, _, _, rfl, rfl, (by show (0 : Int) < _; decide), ?_⟩⟩
              refine ⟨_, rfl, _, rfl, _, _, rfl, rfl, .inl (mc _), _, _, rfl, rfl, ⟨by decide, by decide⟩, _, rfl, _, _, rfl, rfl, .inl ⟨_, rfl, _, _, rfl, rfl, (by show (0 : Int) < _; decide), ?_⟩⟩
              refine ⟨_, rfl, .inl ⟨rfl, _, lstK hds⟩, _, rfl, _, rfl, _, _, rfl, rfl, .inl (mb _), _, _, rfl, rfl, ⟨by decide, by decide⟩, _, rfl, _, _, rfl, rfl, .inr ⟨by decide, by decide⟩, _, _, rfl, rfl, .inl ⟨_, rfl, _, _, rfl, rfl, (by show (0 : Int) < _; decide), ld, ds.map .int, _, rfl, rfl, hds, sz, ⟨_, _, _, _, rfl⟩, push _⟩⟩
          · rw [decide_eq_false c1]
            refine iteF ?_
            refine ⟨_, rfl, _, _, rfl, rfl, .inr ⟨by decide, by decide⟩, _, rfl, _, _, rfl, rfl, .inr ⟨by decide, by decide⟩, _, _, rfl, rfl, _, _, rfl, rfl, .inl ⟨_, rfl, _, _, rfl, rfl, (by show (0 : Int) < _; decide), ?_⟩⟩
            refine ⟨_, rfl, _, rfl, _, _, rfl, rfl, .inl (mc _), _, _, rfl, rfl, ⟨by decide, by decide⟩, _, rfl, _, _, rfl, rfl, .inl ⟨_, rfl, _, _, rfl, rfl, (by show (0 : Int) < _; decide), ?_⟩⟩
            refine ⟨_, rfl, .inl ⟨rfl, _, lstK hds⟩, _, rfl, _, rfl, _, _, rfl, rfl, .inl (mb _), _, _, rfl, rfl, ⟨by decide, by decide⟩, _, rfl, _, _, rfl, rfl, .inr ⟨by decide, by decide⟩, _, _, rfl, rfl, .inl ⟨_, rfl, _, _, rfl, rfl, (by show (0 : Int) < _; decide), ld, ds.map .int, _, rfl, rfl, hds, sz, ⟨_, _, _, _, rfl⟩, push _⟩⟩
        · have e0 : decide ((0 : Int) < ((ns.map V.int).length : Int)) = false := decide_eq_false (by rw [List.length_map]; omega)
          rw [e0]
          refine iteF ?_
          refine ⟨_, rfl, _, _, rfl, rfl, .inr ⟨by decide, by decide⟩, _, rfl, _, _, rfl, rfl, .inr ⟨by decide, by decide⟩, _, _, rfl, rfl, _, _, rfl, rfl, .inl ⟨_, rfl, _, _, rfl, rfl, (by show (0 : Int) < _; decide), ?_⟩⟩
          refine ⟨_, rfl, _, rfl, _, _, rfl, rfl, .inl (mc _), _, _, rfl, rfl, ⟨by decide, by decide⟩, _, rfl, _, _, rfl, rfl, .inl ⟨_, rfl, _, _, rfl, rfl, (by show (0 : Int) < _; decide), ?_⟩⟩
          refine ⟨_, rfl, .inl ⟨rfl, _, lstK hds⟩, _, rfl, _, rfl, _, _, rfl, rfl, .inl (mb _), _, _, rfl, rfl, ⟨by decide, by decide⟩, _, rfl, _, _, rfl, rfl, .inr ⟨by decide, by decide⟩, _, _, rfl, rfl, .inl ⟨_, rfl, _, _, rfl, rfl, (by show (0 : Int) < _; decide), ld, ds.map .int, _, rfl, rfl, hds, sz, ⟨_, _, _, _, rfl⟩, push _⟩⟩
      · rintro σ H2 ⟨⟨c, kv, sp, mx, rfl⟩, Z⟩
        obtain ⟨ds, hds, _⟩ := Z.ds
        exact ⟨_, rfl, q ld ds H2 Z.same hds⟩
end
end NF

set_option Elab.async false
set_option linter.all false
set_option maxRecDepth 100000
set_option maxHeartbeats 4000000
/-! _law_is, _law_refused: the defs that show data by repr. -/
namespace NG
open PySem PySem.Spec PyProof.Rows L2 ND NR NH NA NB NC ND2 NE
section
variable {P : Program} {w : World} {K : PySem.W.Frag} {mg : Str → Option Value} {base : Heap} {C CX CS : Addr}
/-! ### _law_is -/
theorem scS : FnScope ["_law_net_here", "_law_own"] ["_law_net_here", "_law_own"] (defScope sIs) := ⟨rfl, rfl, rfl, by decide +kernel, rfl, by decide +kernel, by decide +kernel⟩
theorem own_at {H : Hp} {o : Addr} {p : Int} {m : Mat} {W : List Mat} {ks : List Str} (h : Own H o p (m :: W) ks) : ∃ w' k' a ws b ms, H o = some (.tup [.int p, w', k']) ∧ w' = .ref a ∧ H a = some (.tup ws) ∧ ws.length = W.length + 1 ∧ ws[0]? = some (.ref b) ∧ H b = some (.tup ms) ∧ ms.length = m.length := by
  obtain ⟨w', k', ho, ⟨a, ws, rfl, ha, hws⟩, _⟩ := h
  obtain ⟨u, hu, b, ms, rfl, hb, hms⟩ := pr_get (i := 0) (y := m) hws rfl
  exact ⟨_, k', a, ws, b, ms, ho, rfl, ha, pr_len hws, hu, hb, pr_len hms⟩
theorem ok_is {f fL fW pw : Addr} {fd fdL fdW : FuncData} (FN : Fun K "_law_is" "_law_is" sIs f fd) (B : Bl mg) (T : Nt K mg C)
    (GL : FnOk P w K mg base CX0 1 fL fdL ["self"] (spLen C)) (bL : Binds K fdL ["self"] []) (aL : PySem.W.findIn K (.ref C) "__len__" = some (some (.ref fL))) (iL : PySem.W.isFn K (.ref fL) = true)
    (GW : FnOk P w K mg base CX0 1 fW fdW ["self"] (spWidth C)) (bW : Binds K fdW ["self"] []) (PWd : PropOf K C "width" pw fW) : GFn P w K mg base 3 f fd ["_law_net_here", "_law_own"] (spIs C) := by
  refine gfn_of FN scS (fun vs H Q E h => ?_) (fun cdv A outer s H vs Q hg hr h => ?_)
  · obtain ⟨x, o, p, W, ks, rfl, _⟩ := h
    rfl
  · obtain ⟨x, o, p, W, ks, rfl, S, hN, hO, q⟩ := h
    have hu := hr.units
    have hr1 : Room 1 _ := hr.mono (by decide)
    refine ⟨_, pss_cons (ps_if (PW.pt (pw_or (pt_not (pt_val (pe_callB call_isi (by rfl) B.isi (by decide +kernel) (pa_cons (pv 0) (pa_cons (pe_glob (v := .ref C) (by rfl) T.mgC rfl) pa_nil)))))
        (pw_or1 (pt_cmpR op_ne (pe_callB (call_repr hg hu) (by rfl) B.repr (by decide +kernel) (pa_cons (pe_lst (pa_cons (pe_fld (pv 0) rfl) (pa_cons (pe_fld (pv 0) rfl) (pa_cons (pe_fld (pv 0) rfl) pa_nil)))) pa_nil))
          (pe_callB (call_repr hg hu) (by rfl) B.repr (by decide +kernel) (pa_cons (pe_lst (pa_cons (pe_ix ix_tup (pv 1) pe_int (fun _ _ => rfl)) (pa_cons (pe_ix ix_tup (pv 1) pe_int (fun _ _ => rfl)) (pa_cons (pe_ix ix_tup (pv 1) pe_int (fun _ _ => rfl)) pa_nil)))) pa_nil)) (nomark _)))))
        (pss_one (ps_ret pe_bl)) pss_nil)
      (pss_one (ps_ret (pe_cmpR op_eq (pe_callB (call_repr hg hu) (by rfl) B.repr (by decide +kernel) (pa_cons (pe_lst (pa_cons (pe_callB (call_lenO GL hr bL aL iL) (by rfl) B.len PySem.boot_len (pa_cons (pv 0) pa_nil)) (pa_cons (pe_prop (pv 0) T.cl PWd GW hr bW .nil pass0 (by rfl)) pa_nil))) pa_nil))
        (pe_callB (call_repr hg hu) (by rfl) B.repr (by decide +kernel) (pa_cons (pe_lst (pa_cons (pe_callB call_len_seq (by rfl) B.len PySem.boot_len (pa_cons (pe_ix ix_tup (pv 1) pe_int (fun _ _ => rfl)) pa_nil))
          (pa_cons (pe_callB call_len_seq (by rfl) B.len PySem.boot_len (pa_cons (pe_ix ix_tup (pe_ix ix_tup (pv 1) pe_int (fun _ _ => rfl)) pe_int (fun _ _ => rfl)) pa_nil)) pa_nil))) pa_nil)) (nomark _)))), ?_⟩
    obtain ⟨m, W', rfl⟩ : ∃ m W', W = m :: W' := by
      cases W with
      | nil => exact absurd S.some1 (by decide)
      | cons m W' => exact ⟨m, W', rfl⟩
    have ml : m.length ≤ 3 := (S.rows m List.mem_cons_self).1
    have wl := S.most
    -- isinstance, the first two texts
    refine ⟨_, rfl, .ref x, .ref C, _, _, true, rfl, .own C, T.ty hN, kit_self, true, rfl, iteF ?_⟩
    obtain ⟨dx, w1, k1, hx, hw1, hk1⟩ := id hN
    refine ⟨_, rfl, x, C, dx, _, _, rfl, hx, T.cl, T.nP, fl_prime, _, rfl, x, C, dx, _, _, rfl, hx, T.cl, T.nW, fl_weights, _, rfl, x, C, dx, _, _, rfl, hx, T.cl, T.nK, fl_kinds, (by show 3 ≤ sizeLine; decide), fun l1 n1 => ?_⟩
    have a1 := same_upd (o := .lst [.int p, w1, k1]) n1
    have f1 : (upd H l1 (.lst [.int p, w1, k1])) l1 = some (.lst [.int p, w1, k1]) := upd_same
    revert a1 f1
    generalize upd H l1 (.lst [.int p, w1, k1]) = H1
    intro a1 f1
    have t1 := Tk.of a1
    refine ⟨.ref l1, dTri p (m :: W') ks, rfl, .lst (lstK f1) (.cons (.int p) (.cons (hw1.mono t1).dp (.cons (hk1.mono t1).dp .nil))), S.showable, tri_hasDict _ _ _, by have := (tri_depth p (m :: W') ks).1; omega, S.shown, ?_⟩
    obtain ⟨w2, k2, ho, hw2, hk2⟩ := id hO
    have ho1 := a1 _ _ ho
    refine ⟨_, rfl, o, _, 0, .int p, rfl, rfl, tupK ho1, rfl, _, rfl, o, _, 1, w2, rfl, rfl, tupK ho1, rfl, _, rfl, o, _, 2, k2, rfl, rfl, tupK ho1, rfl, (by show 3 ≤ sizeLine; decide), fun l2 n2 => ?_⟩
    have a2 := a1.trans (same_upd (o := .lst [.int p, w2, k2]) n2)
    have f2 : (upd H1 l2 (.lst [.int p, w2, k2])) l2 = some (.lst [.int p, w2, k2]) := upd_same
    revert a2 f2
    generalize upd H1 l2 (.lst [.int p, w2, k2]) = H2
    intro a2 f2
    have t2 := Tk.of a2
    refine ⟨.ref l2, dTri p (m :: W') ks, rfl, .lst (lstK f2) (.cons (.int p) (.cons (hw2.mono t2).dp (.cons (hk2.mono t2).dp .nil))), S.showable, tri_hasDict _ _ _, by have := (tri_depth p (m :: W') ks).1; omega, S.shown, rfl, _, rfl, ?_⟩
    rw [decide_eq_true rfl]
    refine iteF ?_
    -- the second two
    have hx2 := a2 _ _ hx
    have hN2 : NetAt C H2 x p (m :: W') ks := hN.mono t2 fun u e => a2 _ _ e
    obtain ⟨w3, k3, a, ws, b, ms, ho3, rfl, ha, hws, h0, hb, hms⟩ := own_at (hO.mono t2)
    refine ⟨_, rfl, x, dx, _, rfl, hx2, x, p, m :: W', ks, rfl, hN2, (m :: W').length, rfl, by omega, ?_⟩
    refine ⟨_, rfl, x, dx, _, rfl, hx2, x, p, m, W', ks, rfl, hN2, (by show 2 ≤ sizeLine; decide), fun l3 n3 => ?_⟩
    have a3 := same_upd (o := .lst [.int (((m :: W').length : Nat) : Int), .int ((m.length : Nat) : Int)]) n3
    have f3 : (upd H2 l3 (.lst [.int (((m :: W').length : Nat) : Int), .int ((m.length : Nat) : Int)])) l3 = some (.lst [.int (((m :: W').length : Nat) : Int), .int ((m.length : Nat) : Int)]) := upd_same
    revert a3 f3
    generalize upd H2 l3 (.lst [.int (((m :: W').length : Nat) : Int), .int ((m.length : Nat) : Int)]) = H3
    intro a3 f3
    have sh : (PyData.list [.int (((m :: W').length : Nat) : Int), .int ((m.length : Nat) : Int)]).showable = true := by
      have e1 := int_showable (x := (((m :: W').length : Nat) : Int)) (by omega)
      have e2 := int_showable (x := ((m.length : Nat) : Int)) (by omega)
      simp only [PyData.showable, PyData.showableAll, Bool.and_true] at e1 e2 ⊢
      rw [e1, e2] <;> rfl
    have hd2 : (PyData.list [.int (((m :: W').length : Nat) : Int), .int ((m.length : Nat) : Int)]).hasDict = false := by simp [PyData.hasDict, PyData.hasDictAll]
    have dp2 : (PyData.list [.int (((m :: W').length : Nat) : Int), .int ((m.length : Nat) : Int)]).depth ≤ 50 := by simp [PyData.depth, PyData.depthAll]
    have sz2 := two_shown (a := (((m :: W').length : Nat) : Int)) (b := ((m.length : Nat) : Int)) (by omega) (by omega) (by omega) (by omega)
    refine ⟨.ref l3, _, rfl, .lst (lstK f3) (.cons (.int _) (.cons (.int _) .nil)), sh, hd2, dp2, sz2, ?_⟩
    have ho4 := a3 _ _ ho3
    have ha4 := a3 _ _ ha
    have hb4 := a3 _ _ hb
    refine ⟨_, rfl, o, _, 1, .ref a, rfl, rfl, tupK ho4, rfl, a, ws, rfl, .inr (tupK ha4), ?_⟩
    refine ⟨_, rfl, o, _, 1, .ref a, rfl, rfl, tupK ho4, rfl, a, ws, 0, .ref b, rfl, rfl, tupK ha4, atI_nat (j := 0) h0, b, ms, rfl, .inr (tupK hb4), (by show 2 ≤ sizeLine; decide), fun l4 n4 => ?_⟩
    have a4 := same_upd (o := .lst [.int ((ws.length : Nat) : Int), .int ((ms.length : Nat) : Int)]) n4
    have f4 : (upd H3 l4 (.lst [.int ((ws.length : Nat) : Int), .int ((ms.length : Nat) : Int)])) l4 = some (.lst [.int ((ws.length : Nat) : Int), .int ((ms.length : Nat) : Int)]) := upd_same
    revert a4 f4
    generalize upd H3 l4 (.lst [.int ((ws.length : Nat) : Int), .int ((ms.length : Nat) : Int)]) = H4
    intro a4 f4
    have e1 : ws.length = (m :: W').length := hws
    rw [e1, hms] at f4
    refine ⟨.ref l4, _, rfl, .lst (lstK f4) (.cons (.int _) (.cons (.int _) .nil)), sh, hd2, dp2, sz2, rfl, ?_⟩
    rw [decide_eq_true rfl]
    exact q H4 (a2.trans (a3.trans a4))

/-! ### _law_refused -/
theorem scR : FnScope ["_law_value", "_law_own", "e"] ["_law_value", "_law_own"] (defScope sRef) := ⟨rfl, rfl, rfl, by decide +kernel, rfl, by decide +kernel, by decide +kernel⟩
def tBodyR (K : PySem.W.Frag) (C CX : Addr) (W : WX) : TS := tDrop (tMakeS C (spNI C CX) (WE W) (tCons (tVar 0) (tCons (tOp (rIxT K) (tVar 1) (tC (.int 1))) (tCons (tOp (rIxT K) (tVar 1) (tC (.int 2))) tNil))))
def tSuiteR (K : PySem.W.Frag) (CX CS a : Addr) (cls : Value) (d : Option Addr) : TS :=
  tRet (tAndV (tOp rEq (tCB (rRepr K) (tCons (tXf a cls d CX "number" (tVar 2)) tNil)) (tCB (rRepr K) (tCons (tVar 0) tNil))) (tCB (rIsF K CX a cls d) (tCons (tVar 2) (tCons (tC (.ref CS)) tNil))))
theorem ix_tupK {X : Cx} : IxR X (rIxT X.K) := ix_tup
theorem ok_ref {f fN : Addr} {fd fdN : FuncData} (FN : Fun K "_law_refused" "_law_refused" sRef f fd) (B : Bl mg) (T : Nt K mg C) (M : Mk K C fN) (GN : FnOk P w K mg base (L2.CX P w) 3 fN fdN ["self", "prime", "weights", "kinds"] (spNI C CX))
    (bN : Binds K fdN ["self", "prime", "weights", "kinds"] []) (mX : mg "InvalidNumber" = some (.ref CX)) (mS : mg "StageError" = some (.ref CS)) (XF : XfC K CX) (noX : PySem.W.findIn K (.ref CX) "number" = some none) (TE : ExcC K CX)
    (ex : PySem.W.exmOne K (.ref CX) (.ref CX) = some true) (kS : PySem.W.kitOne K (.ref CX) (.ref CS) = some true) : GFn P w K mg base 5 f fd ["_law_value", "_law_own"] spRef := by
  refine gfn_of FN scR (fun vs H Q E h => ?_) (fun cdv A outer s H vs Q hg hr h => ?_)
  · obtain ⟨v, d, o, p, W, ks, rfl, _⟩ := h
    rfl
  · obtain ⟨v, d, o, p, W, ks, rfl, ov, hd, ⟨w', k', ho, hw, hk⟩, q⟩ := h
    have hu := hr.units
    refine ⟨_, pss_cons (ps_try_as (i := 2) (tb := tBodyR K C CX) (ts := tSuiteR K CX CS) (Wout := fun _ _ _ _ => False) rfl rfl scR.nd rfl rfl ⟨rfl, by decide, Or.inl mX⟩ takes0
        (fun W pn xe tk _ => pss_one (ps_expr (by exact (pe_makeS M GN hr (by rfl) T.mgC bN (fun σ => passAt tk σ) (by exact (pa_cons (pv 0) (pa_cons (pe_ix (r := rIxT K) ix_tupK (pv 1) pe_int (fun _ _ => rfl)) (pa_cons (pe_ix (r := rIxT K) ix_tupK (pv 1) pe_int (fun _ _ => rfl)) pa_nil))))))))
        (fun a oe cls d pn hz hf => pss_one (ps_ret (by exact (pe_and (pe_cmpR op_eq (pe_callB (r := rRepr K) (call_repr hg hu) (by rfl) B.repr (by decide +kernel) (pa_cons (pe_xf XF noX hz hf (pv 2)) pa_nil))
          (pe_callB (r := rRepr K) (call_repr hg hu) (by rfl) B.repr (by decide +kernel) (pa_cons (pv 0) pa_nil)) (nomark _))
          (pe_one (pe_callB (r := rIsF K CX a cls d) (call_isF TE hz hf) (by rfl) B.isi (by decide +kernel) (pa_cons (pv 2) (pa_cons (pe_glob (v := .ref CS) (by rfl) mS rfl) pa_nil)))))))))
      (pss_one (ps_ret pe_bl)), ?_⟩
    obtain ⟨g1, g2, g3, g4, _⟩ := good_of hd
    refine ⟨_, rfl, _, rfl, o, _, 1, w', rfl, rfl, tupK ho, rfl, _, rfl, o, _, 2, k', rfl, rfl, tupK ho, rfl, fun x dx nx ndx ne => ?_⟩
    have sm : Same H (upd (upd H dx (.own x)) x (.ins C dx [])) := (same_upd ndx).trans (same_upd (by rw [upd_ne ne.symm]; exact nx))
    refine ⟨x, dx, v, w', k', W, ks, rfl, upd_same, by rw [upd_ne ne, upd_same], .inr ⟨d, ov.same sm, hd, fun d' H1 kp hd' => ?_⟩⟩
    have s1 : Same H H1 := same_made nx ndx kp
    refine ⟨true, ex, fun _ a ha => ?_, fun z => nomatch z⟩
    have dpv : Dp K H1 v d := (ov.same s1).dp
    refine ⟨_, rfl, rfl, rfl, d', _, v, rfl, hd', rfl, v, d, rfl, dpv, g1, g2, g3, g4, ?_⟩
    refine ⟨_, rfl, v, d, rfl, dpv, g1, g2, g3, g4, rfl, _, rfl, ?_⟩
    rw [decide_eq_true rfl]
    refine iteT ?_
    exact ⟨_, rfl, rfl, d', _, rfl, hd', .ref CS, .ref CS, true, rfl, fun u e => e, kS, q H1 s1⟩
end
end NG

set_option Elab.async false
set_option linter.all false
set_option maxRecDepth 100000
set_option maxHeartbeats 8000000
/-! _law_other: a net that differs. -/
namespace NO
open PySem PySem.Spec PyProof.Rows L2 ND NR NH NA NB NC ND2 NE NF
/-! ### slices and sums of tuples, told in one way -/
def rSlU : V → Option Int → Option Int → Hp → VK → Prop := fun x lo hi H Q => ∃ a xs, x = .ref a ∧ H a = some (.tup xs) ∧ ∀ t H', Same H H' → H' t = some (.tup (cutV xs lo hi)) → Q (.ref t) H'
def rCatU : R2 := fun x y H Q => ∃ a b xs ys, x = .ref a ∧ y = .ref b ∧ H a = some (.tup xs) ∧ H b = some (.tup ys) ∧ xs.length + ys.length ≤ sizeLine ∧ ∀ t H', Same H H' → H' t = some (.tup (xs ++ ys)) → Q (.ref t) H'
theorem sl_U {X : Cx} : SlR X rSlU := by
  intro pins s σ H x v vl vu lo hi sl Q I rx hs pl pu h
  obtain ⟨a, xs, ex, hx, q⟩ := h
  refine sl_tupA pins s σ H x v vl vu lo hi sl Q I rx hs pl pu ⟨a, xs, ex, tupK hx, fun hw => ?_, fun _ p hp => q p _ (same_upd hp) upd_same⟩
  refine q a H (Same.refl H) ?_
  rw [hx]
  have e : cutV xs lo hi = xs := by
    unfold cutV
    rw [hw.1, hw.2]
    simp
  rw [e]
theorem op_U {X : Cx} : OpR X (binaryOp .Add) rCatU := by
  intro pins s σ H x y v u Q I rx ry h
  obtain ⟨a, b, xs, ys, ex, ey, ha, hb, hz, q⟩ := h
  refine op_catA pins s σ H x y v u Q I rx ry ⟨a, b, xs, ys, ex, ey, tupK ha, tupK hb, hz, fun e => ?_, fun _ e => ?_, fun _ _ p hp => q p _ (same_upd hp) upd_same⟩
  · refine q b H (Same.refl H) ?_
    rw [hb, e]
    rfl
  · refine q a H (Same.refl H) ?_
    rw [ha, e, List.append_nil]
theorem cut_to {xs : List V} {k : Nat} (h : k ≤ xs.length) : cutV xs none (some (k : Int)) = xs.take k := by
  unfold cutV
  rw [HT.sIx_none, HT.sIx_nat, Nat.min_eq_left h]
  simp
theorem cut_from {xs : List V} {k : Nat} (h : k < xs.length) : cutV xs (some ((k : Int) + 1)) none = xs.drop (k + 1) := by
  have e : ((k : Int) + 1) = ((k + 1 : Nat) : Int) := by omega
  unfold cutV
  rw [e, HT.sIx_none, HT.sIx_nat, Nat.min_eq_left (by omega)]
  rw [List.take_of_length_le]
  rw [List.length_drop]
  exact Nat.le_refl _
theorem cut_last {xs : List V} (h : 1 ≤ xs.length) : cutV xs none (some (-1)) = xs.take (xs.length - 1) := by
  have e : HT.sIx xs.length xs.length (some (-1)) = xs.length - 1 := by
    show (if (-1 : Int) < 0 then ((-1 : Int) + (xs.length : Int)).toNat else min (-1 : Int).toNat xs.length) = xs.length - 1
    rw [if_pos (by decide)]
    omega
  unfold cutV
  rw [e, HT.sIx_none]
  simp
/-! ### a list with one place changed -/
def put {α : Type} (l : List α) (j : Nat) (y : α) : List α := l.take j ++ [y] ++ l.drop (j + 1)
theorem put_len {α : Type} {l : List α} {j : Nat} {y : α} (h : j < l.length) : (put l j y).length = l.length := by
  unfold put
  rw [List.length_append, List.length_append, List.length_take, List.length_drop, List.length_singleton]
  omega
theorem put_at {α : Type} {l : List α} {j : Nat} {y : α} (h : j < l.length) : (put l j y)[j]? = some y := by
  unfold put
  rw [List.append_assoc, List.getElem?_append_right (by rw [List.length_take]; omega), List.length_take, Nat.min_eq_left (by omega), Nat.sub_self]
  rfl
theorem put_mem {α : Type} {l : List α} {j : Nat} {y z : α} (h : z ∈ put l j y) : z = y ∨ z ∈ l := by
  unfold put at h
  rcases List.mem_append.mp h with h | h
  · rcases List.mem_append.mp h with h | h
    · exact .inr (List.mem_of_mem_take h)
    · exact .inl (List.mem_singleton.mp h)
  · exact .inr (List.mem_of_mem_drop h)
theorem put_ne {α : Type} {l : List α} {j : Nat} {x y : α} (h : l[j]? = some x) (n : x ≠ y) : l ≠ put l j y := fun e => by
  have hj : j < l.length := (List.getElem?_eq_some_iff.mp h).1
  have z := put_at (y := y) hj
  rw [← e, h] at z
  exact n (Option.some.inj z)
theorem put_map {α β : Type} {f : α → β} {l : List α} {j : Nat} {y : α} : put (l.map f) j (f y) = (put l j y).map f := by
  unfold put
  rw [List.map_append, List.map_append, List.map_take, List.map_drop]
  rfl
theorem put_pr {α β : Type} {F : α → β → Prop} {l : List α} {m : List β} {j : Nat} {x : α} {y : β} (p : Paired F l m) (h : F x y) : Paired F (put l j x) (put m j y) :=
  pr_app (pr_drop _ p) (pr_app (.cons h .nil) (pr_take _ p))
/-! ### the four ways to differ -/
section
variable {p : Int} {W : List Mat} {ks : List Str}
theorem other_row (S : Shape p W ks) {l i k : Nat} {m : Mat} {r : Rw} {x : Int} (hm : W[l]? = some m) (hr : m[i]? = some r) (hx : r[k]? = some x) :
    Shape p (put W l (put m i (put r k ((x + 1) % p)))) ks ∧ W ≠ put W l (put m i (put r k ((x + 1) % p))) := by
  obtain ⟨w, w1, w3, hW⟩ := S.wide
  obtain ⟨p2, p97⟩ := S.p_lt
  have hl := (List.getElem?_eq_some_iff.mp hm).1
  have hi := (List.getElem?_eq_some_iff.mp hr).1
  have hk := (List.getElem?_eq_some_iff.mp hx).1
  have mW := hW m (List.mem_of_getElem? hm)
  have rM := mW.2 r (List.mem_of_getElem? hr)
  have xR := rM.2 x (List.mem_of_getElem? hx)
  have y0 : 0 ≤ (x + 1) % p := Int.emod_nonneg _ (by omega)
  have y1 : (x + 1) % p < p := Int.emod_lt_of_pos _ (by omega)
  have nx : x ≠ (x + 1) % p := fun e => by
    by_cases c : x + 1 = p
    · rw [c, Int.emod_self] at e
      omega
    · rw [Int.emod_eq_of_lt (by omega) (by omega)] at e
      omega
  refine ⟨⟨S.prime, by rw [put_len hl]; exact S.some1, by rw [put_len hl]; exact S.most, ⟨w, w1, w3, fun m' hm' => ?_⟩, by rw [put_len hl]; exact S.kinds⟩, put_ne hm (put_ne hr (put_ne hx nx))⟩
  rcases put_mem hm' with e | hm'
  · subst e
    refine ⟨by rw [put_len hi]; exact mW.1, fun r' hr' => ?_⟩
    rcases put_mem hr' with e | hr'
    · subst e
      refine ⟨by rw [put_len hk]; exact rM.1, fun z hz => ?_⟩
      rcases put_mem hz with e | hz
      · subst e
        exact ⟨y0, y1⟩
      · exact rM.2 z hz
    · exact mW.2 r' hr'
  · exact hW m' hm'
theorem ls_ne : ¬ (("line" : Str) = "square") := by decide +kernel
def flip (k : Str) : Str := if k = ("line" : Str) then "square" else "line"
theorem other_kind (S : Shape p W ks) {l : Nat} {k : Str} (hk : ks[l]? = some k) : Shape p W (put ks l (flip k)) ∧ ks ≠ put ks l (flip k) := by
  have hl := (List.getElem?_eq_some_iff.mp hk).1
  have nk : k ≠ flip k := by
    unfold flip
    rcases S.kinds.2 k (List.mem_of_getElem? hk) with e | e
    · subst e
      rw [if_pos rfl]
      exact ls_ne
    · subst e
      rw [if_neg fun z => ls_ne z.symm]
      exact fun z => ls_ne z.symm
  refine ⟨⟨S.prime, S.some1, S.most, S.wide, by rw [put_len hl]; exact S.kinds.1, fun z hz => ?_⟩, put_ne hk nk⟩
  rcases put_mem hz with e | hz
  · subst e
    unfold flip
    by_cases c : k = ("line" : Str)
    · rw [if_pos c]
      exact .inr rfl
    · rw [if_neg c]
      exact .inl rfl
  · exact S.kinds.2 z hz
theorem other_less (S : Shape p W ks) (h : 1 < W.length) : Shape p (W.take (W.length - 1)) (ks.take (ks.length - 1)) ∧ W ≠ W.take (W.length - 1) := by
  obtain ⟨w, w1, w3, hW⟩ := S.wide
  have e := S.kinds.1
  have m := S.most
  refine ⟨⟨S.prime, by rw [List.length_take]; omega, by rw [List.length_take]; omega, ⟨w, w1, w3, fun m hm => hW m (List.mem_of_mem_take hm)⟩, by rw [List.length_take, List.length_take]; omega, fun k hk => S.kinds.2 k (List.mem_of_mem_take hk)⟩, fun z => ?_⟩
  have z' := congrArg List.length z
  rw [List.length_take] at z'
  omega
theorem other_97 (S : Shape p W ks) (h : p < 97) : Shape 97 W ks := by
  obtain ⟨w, w1, w3, hW⟩ := S.wide
  exact ⟨by decide +kernel, S.some1, S.most, ⟨w, w1, w3, fun m hm => ⟨(hW m hm).1, fun r hr => ⟨((hW m hm).2 r hr).1, fun x hx => by have := ((hW m hm).2 r hr).2 x hx; omega⟩⟩⟩, S.kinds⟩
def cap (x : Int) : Int := if (88 : Int) < x then 88 else x
def capM (m : Mat) : Mat := m.map fun r => r.map cap
theorem other_89 (S : Shape p W ks) : Shape 89 (W.map capM) ks := by
  obtain ⟨w, w1, w3, hW⟩ := S.wide
  refine ⟨by decide +kernel, by rw [List.length_map]; exact S.some1, by rw [List.length_map]; exact S.most, ⟨w, w1, w3, fun m' hm' => ?_⟩, by rw [List.length_map]; exact S.kinds⟩
  obtain ⟨m, hm, rfl⟩ := List.mem_map.mp hm'
  refine ⟨by unfold capM; rw [List.length_map]; exact (hW m hm).1, fun r' hr' => ?_⟩
  obtain ⟨r, hr, rfl⟩ := List.mem_map.mp hr'
  refine ⟨by rw [List.length_map]; exact ((hW m hm).2 r hr).1, fun x' hx' => ?_⟩
  obtain ⟨x, hx, rfl⟩ := List.mem_map.mp hx'
  have := ((hW m hm).2 r hr).2 x hx
  unfold cap
  by_cases c : (88 : Int) < x
  · rw [if_pos c]
    decide
  · rw [if_neg c]
    omega
end
/-! ### xs[:j] + (y,) + xs[j + 1:] -/
theorem put_read {te tj tm : TE} {σ : L2.St} {H : Hp} {Q : VK} {a : Addr} {xs : List V} {j : Nat} {y : V} (hj : j < xs.length) (hz : xs.length ≤ 1000) (hx : H a = some (.tup xs))
    (hte : ∀ (H' : Hp) (Q' : VK), Same H H' → Q' (.ref a) H' → te σ H' Q') (htj : ∀ (H' : Hp) (Q' : VK), Q' (.int (j : Int)) H' → tj σ H' Q')
    (htm : ∀ (H' : Hp) (Q' : VK), Same H H' → (∀ t H'', Same H' H'' → H'' t = some (.tup [y]) → Q' (.ref t) H'') → tm σ H' Q')
    (h : ∀ t H', Same H H' → H' t = some (.tup (put xs j y)) → Q (.ref t) H') :
    tOp rCatU (tOp rCatU (tSl rSlU te tNoPart (tPart tj)) tm) (tSl rSlU te (tPart (tOp (rI0 fun i j => .int (i + j)) tj (tC (.int 1)))) tNoPart) σ H Q := by
  have z : sizeLine = 16777216 := sizeLine_eq
  refine hte H _ (Same.refl H) ?_
  refine htj _ _ ⟨_, rfl, a, xs, rfl, hx, fun t1 H1 s1 e1 => ?_⟩
  rw [cut_to (by omega)] at e1
  refine htm _ _ s1 fun t2 H2 s2 e2 => ?_
  refine ⟨t1, t2, _, _, rfl, rfl, s2 _ _ e1, e2, by rw [List.length_take, List.length_singleton]; omega, fun t3 H3 s3 e3 => ?_⟩
  have s13 := (s1.trans s2).trans s3
  refine hte _ _ s13 ?_
  refine htj _ _ ⟨_, _, rfl, rfl, _, rfl, a, xs, rfl, s13 _ _ hx, fun t4 H4 s4 e4 => ?_⟩
  rw [cut_from hj] at e4
  refine ⟨t3, t4, _, _, rfl, rfl, s4 _ _ e3, e4, by rw [List.length_append, List.length_take, List.length_singleton, List.length_drop]; omega, fun t5 H5 s5 e5 => ?_⟩
  exact h t5 H5 ((s13.trans s4).trans s5) e5
/-! ### the walk -/
section
variable {P : Program} {w : World} {K : PySem.W.Frag} {mg : Str → Option Value} {base : Heap}
abbrev nO : List Str := ["_law_hand", "_law_own", "_law_prime_here", "_law_weights", "_law_kinds", "_law_layer", "_law_i", "_law_k", "_law_row", "_law_kind", "_law_matrix", "_law_changed_kind", "_law_less", "_law_one"]
theorem scOt : FnScope nO ["_law_hand", "_law_own"] (defScope sOther) := ⟨rfl, rfl, rfl, by decide +kernel, rfl, by decide +kernel, by decide +kernel⟩
def rMin2 : List V → Hp → VK → Prop := fun xs H Q => ∃ i j, xs = [.int i, .int j] ∧ Q (.int (if j < i then j else i)) H
theorem call_min' {X : Cx} (hc : X.calm = true) : CallR X (.builtin "min") rMin2 := call_min2 hc
def scRow : Scope := { kind := .function, names := [(".0", .local), ("_law_row", .local), ("tuple", .globalImplicit)], isGenerator := false, isCoroutine := false }
/-- the reading of the end of _law_other -/
def tTail (K : PySem.W.Frag) : TS := tSeq (tIfS (tTest (tOp (rI0 fun i j => .bl (decide (i < j))) (tVar 2) (tC (.int 97)))) (tRet (tTup (tCons (tC (.int 97)) (tCons (tVar 3) (tCons (tVar 4) tNil))))) tNext)
  (tSeq (tAsg (tLst tNil) (gName 12))
  (tSeq (tFor (iTup K (tVar 3)) (gName 10) (tDrop (tBM K "list" rAppend (tVar 12) (tCons (tCB (rTup K) (tCons (tLc (iTup K (tVar 10)) (gName 8) tYes
      (tCB (rTup K) (tCons (tLc (iTup K (tVar 8)) (gName 13) tYes (tCB rMin2 (tCons (tVar 13) (tCons (tC (.int 88)) tNil))) [13]) tNil)) [8]) tNil)) tNil))))
  (tRet (tTup (tCons (tC (.int 89)) (tCons (tCB (rTup K) (tCons (tVar 12) tNil)) (tCons (tVar 4) tNil)))))))
theorem cap_if (x : Int) : (if (88 : Int) < x then (88 : Int) else x) = cap x := rfl
theorem other_tail {H : Hp} {Q : VK} {E : XK} {p : Int} {W : List Mat} {ks : List Str} {a b : Addr} {ws : List V} {v0 v1 v5 v6 v7 v8 v9 : V} (S : Shape p W ks) (ha : H a = some (.tup ws)) (hws : Paired (MatT H) ws W) (hb : H b = some (.tup (ks.map .str)))
    (q : ∀ (t : Addr) (q : Int) (Z : List Mat) (H' : Hp), Same H H' → Shape q Z ks → Own H' t q Z ks → p ≠ q → Q (.ref t) H') :
    tTail K { nx := fun _ H' => Q .non H', rt := Q } [some v0, some v1, some (.int p), some (.ref a), some (.ref b), some v5, some v6, some v7, some v8, some v9, none, none, none, none] H := by
  have z0 : sizeLine = 16777216 := sizeLine_eq
  have lW6 := S.most
  obtain ⟨p2, p97⟩ := S.p_lt
  refine ⟨_, rfl, _, _, rfl, rfl, _, rfl, ?_⟩
  refine ite2 (fun c => ?_) (fun c => ?_)
  · have c' : p < 97 := of_decide_eq_true c
    refine ⟨_, rfl, _, rfl, (by show 3 ≤ sizeLine; omega), fun t n => ?_⟩
    have s1 := same_upd (o := .tup [.int 97, .ref a, .ref b]) n
    exact q t 97 W _ s1 (other_97 S c') ⟨.ref a, .ref b, upd_same, ⟨a, ws, rfl, s1 _ _ ha, pr_mono (fun _ _ => MatT.mono (Tk.of s1)) hws⟩, ⟨b, rfl, s1 _ _ hb⟩⟩ (by omega)
  · have c' : ¬ p < 97 := fun z => c (decide_eq_true z)
    refine ⟨Nat.zero_le _, fun lz nz => ?_⟩
    refine ⟨_, rfl, a, rfl, ⟨_, tupK ((same_upd nz) _ _ ha)⟩, for_tup (K := K) (a := a) (xs := ws)
      (fun j σ H' => (∃ mv : Option V, σ = [some v0, some v1, some (.int p), some (.ref a), some (.ref b), some v5, some v6, some v7, some v8, some v9, mv, none, some (.ref lz), none]) ∧ Same H H' ∧ ∃ vs, H' lz = some (.lst vs) ∧ Paired (MatT H') vs ((W.take j).map capM))
      ⟨⟨_, rfl⟩, same_upd nz, [], upd_same, .nil⟩ (fun j σ H' _ z => tupK (z.2.1 _ _ ha)) ?_ ?_⟩
    · rintro j y σ H1 hy ⟨⟨mv, rfl⟩, s1, vs, hvs, pr⟩
      obtain ⟨m, hm, ma, ms, rfl, hma, hms⟩ := pr_get' hws hy
      have lm : m.length ≤ 3 := (S.rows m (List.mem_of_getElem? hm)).1
      have hma1 := s1 _ _ hma
      refine ⟨_, rfl, .inl ⟨rfl, _, lstK hvs⟩, _, rfl, ma, rfl, ⟨_, tupK hma1⟩, fun D hD => lc_tup (K := K) (a := ma) (xs := ms)
        (fun i H' => Same H1 H' ∧ ∃ acc, H' D = some (.lst acc) ∧ Paired (RowT H') acc ((m.take i).map fun r => r.map cap)) ⟨same_upd hD, [], upd_same, .nil⟩ (fun i H' _ z => tupK (z.1 _ _ hma1)) ?_ ?_⟩
      · rintro i u H2 hu ⟨s2, acc, hacc, pr2⟩
        obtain ⟨r, hr, ra, rfl, hra⟩ := pr_get' hms hu
        have lr : r.length ≤ 3 := ((S.rows m (List.mem_of_getElem? hm)).2 r (List.mem_of_getElem? hr)).1
        have hi := (List.getElem?_eq_some_iff.mp hr).1
        have hra2 := s2 _ _ (s1 _ _ hra)
        refine ⟨rfl, _, rfl, ra, rfl, ⟨_, tupK hra2⟩, fun D2 hD2 => lc_tup (K := K) (a := ra) (xs := r.map .int)
          (fun i2 H' => Same H2 H' ∧ H' D2 = some (.lst (((r.take i2).map cap).map .int))) ⟨same_upd hD2, upd_same⟩ (fun i2 H' _ z => tupK (z.1 _ _ hra2)) ?_ ?_⟩
        · rintro i2 w' H3 hw' ⟨s3, h3⟩
          obtain ⟨x, hx, rfl⟩ : ∃ x, r[i2]? = some x ∧ w' = .int x := by
            rw [List.getElem?_map] at hw'
            cases e : r[i2]? with
            | none => rw [e] at hw'; cases hw'
            | some x => rw [e] at hw'; exact ⟨x, rfl, (Option.some.inj hw').symm⟩
          refine ⟨rfl, _, rfl, x, 88, rfl, _, h3, by rw [List.length_map, List.length_map, List.length_take]; omega, same_push s3 hD2, ?_⟩
          rw [upd_same, snoc_take hx, List.map_append, List.map_append]
          rfl
        · rintro H3 ⟨s3, h3⟩
          rw [List.length_map, List.take_length] at h3
          refine ⟨D2, _, rfl, .inl ⟨lstK h3, fun t nt => ?_⟩⟩
          have s23 := s3.trans (same_upd (o := .tup ((r.map cap).map .int)) nt)
          have hD3 := s23 _ _ hacc
          have tk := tk_push (xs := acc ++ [V.ref t]) hD3
          refine ⟨acc, hD3, by rw [pr_len pr2, List.length_map, List.length_take]; omega, ?_, acc ++ [.ref t], upd_same, ?_⟩
          · exact same_push (s2.trans s23) hD
          · rw [snoc_take hr, List.map_append]
            exact pr_snoc ⟨t, rfl, tk _ _ upd_same⟩ (pr_mono (fun _ _ => RowT.mono ((Tk.of s23).trans tk)) pr2)
      · rintro H2 ⟨s2, acc, hacc, pr2⟩
        rw [pr_len hms, List.take_length] at pr2
        refine ⟨D, acc, rfl, .inl ⟨lstK hacc, fun t nt => ?_⟩⟩
        have st := s2.trans (same_upd (o := .tup acc) nt)
        have hz := st _ _ hvs
        have tk := tk_push (xs := vs ++ [V.ref t]) hz
        refine ⟨lz, vs, .ref t, rfl, rfl, hz, by rw [pr_len pr, List.length_map, List.length_take]; omega, ⟨_, rfl⟩, same_push (s1.trans st) nz, vs ++ [.ref t], upd_same, ?_⟩
        rw [snoc_take hm, List.map_append]
        exact pr_snoc ⟨t, acc, rfl, tk _ _ upd_same, pr_mono (fun _ _ => RowT.mono ((Tk.of (same_upd nt)).trans tk)) pr2⟩ (pr_mono (fun _ _ => MatT.mono ((Tk.of st).trans tk)) pr)
    · rintro σ H1 ⟨⟨mv, rfl⟩, s1, vs, hvs, pr⟩
      rw [pr_len hws, List.take_length] at pr
      refine ⟨_, rfl, lz, vs, rfl, .inl ⟨lstK hvs, fun t nt => ⟨_, rfl, (by show 3 ≤ sizeLine; omega), fun t2 nt2 => ?_⟩⟩⟩
      have sa := (same_upd (o := .tup vs) nt).trans (same_upd (o := .tup [.int 89, .ref t, .ref b]) nt2)
      have all := s1.trans sa
      exact q t2 89 _ _ all (other_89 S) ⟨.ref t, .ref b, upd_same, ⟨t, vs, rfl, (same_upd nt2) _ _ upd_same, pr_mono (fun _ _ => MatT.mono (Tk.of sa)) pr⟩, ⟨b, rfl, all _ _ hb⟩⟩ (by omega)
section
variable {fT : Addr} {fdT : FuncData} (GT : FnOk P w K mg base CX0 1 fT fdT ["_law_hand", "_law_many"] spTake) (bT : Binds K fdT ["_law_hand", "_law_many"] []) (mT : mg "_law_take" = some (.ref fT)) (kT : PySem.W.keepIn K (.ref fT) = true)
include GT bT mT kT
theorem ok_other {f : Addr} {fd : FuncData} (FN : Fun K "_law_other" "_law_other" sOther f fd) (B : Bl mg) : FnOk P w K mg base CX0 2 f fd ["_law_hand", "_law_own"] spOther := by
  refine FN.ok scOt (fun vs H Q E h => ?_) (fun cdv A outer s H vs Q E hr h => ?_)
  · obtain ⟨h, dr, o, p, W, ks, rfl, _⟩ := h
    rfl
  · obtain ⟨h, dr, o, p, W, ks, rfl, hh, ⟨w', k', ho, hw, hk⟩, S, q⟩ := h
    have hr1 : Room 1 _ := hr.mono (by decide)
    refine ⟨_, pss_cons (ps_asg (pv 1) (pg_tup (by rfl) (pgs_cons (pg_name (i := 2) scOt.nd rfl (Or.inl rfl)) (pgs_cons (pg_name (i := 3) scOt.nd rfl (Or.inl rfl)) (pgs_cons (pg_name (i := 4) scOt.nd rfl (Or.inl rfl)) pgs_nil)))))
      (pss_cons (ps_set (i := 5) scOt.nd rfl (Or.inl rfl) (pe_call GT hr1 (by rfl) mT kT bT .nil pass0 (pa_cons (pv 0) (pa_cons (pe_callB call_len_seq (by rfl) B.len PySem.boot_len (pa_cons (pv 3) pa_nil)) pa_nil))))
      (pss_cons (ps_set (i := 6) scOt.nd rfl (Or.inl rfl) (pe_call GT hr1 (by rfl) mT kT bT .nil pass0 (pa_cons (pv 0) (pa_cons (pe_callB call_len_seq (by rfl) B.len PySem.boot_len (pa_cons (pe_ix ix_tup (pv 3) pe_int (fun _ _ => rfl)) pa_nil)) pa_nil))))
      (pss_cons (ps_set (i := 7) scOt.nd rfl (Or.inl rfl) (pe_call GT hr1 (by rfl) mT kT bT .nil pass0 (pa_cons (pv 0) (pa_cons (pe_callB call_len_seq (by rfl) B.len PySem.boot_len (pa_cons (pe_ix ix_tup (pv 3) pe_int (fun _ _ => rfl)) pa_nil)) pa_nil))))
      (pss_cons (ps_set (i := 8) scOt.nd rfl (Or.inl rfl) (pe_ix ix_tup (pe_ix ix_tup (pv 3) (pv 5) (fun _ _ => rfl)) (pv 6) (fun _ _ => rfl)))
      (pss_cons (ps_set (i := 9) scOt.nd rfl (Or.inl rfl) (pe_call GT hr1 (by rfl) mT kT bT .nil pass0 (pa_cons (pv 0) (pa_cons pe_int pa_nil))))
      (pss_cons (ps_if (pt_cmpR op_eq (pv 9) pe_int (nomark _))
        (pss_cons (ps_set (i := 8) scOt.nd rfl (Or.inl rfl) (pe_op op_U (pe_op op_U (pe_slice sl_U (pv 8) po_none (po_some (pv 7))) (pe_tup (pa_cons (pe_op op_mod (pe_callTy (r := rInt) call_int' (by rfl) B.int (by decide +kernel) (pa_cons (pe_op op_add (pe_ix ix_tup (pv 8) (pv 7) (fun _ _ => rfl)) pe_int) pa_nil)) (pv 2)) pa_nil)))
            (pe_slice sl_U (pv 8) (po_some (pe_op op_add (pv 7) pe_int)) po_none)))
        (pss_cons (ps_set (i := 10) scOt.nd rfl (Or.inl rfl) (pe_op op_U (pe_op op_U (pe_slice sl_U (pe_ix ix_tup (pv 3) (pv 5) (fun _ _ => rfl)) po_none (po_some (pv 6))) (pe_tup (pa_cons (pv 8) pa_nil)))
            (pe_slice sl_U (pe_ix ix_tup (pv 3) (pv 5) (fun _ _ => rfl)) (po_some (pe_op op_add (pv 6) pe_int)) po_none)))
        (pss_one (ps_ret (pe_tup (pa_cons (pv 2) (pa_cons (pe_op op_U (pe_op op_U (pe_slice sl_U (pv 3) po_none (po_some (pv 5))) (pe_tup (pa_cons (pv 10) pa_nil))) (pe_slice sl_U (pv 3) (po_some (pe_op op_add (pv 5) pe_int)) po_none)) (pa_cons (pv 4) pa_nil))))))))
        pss_nil)
      (pss_cons (ps_if (pt_cmpR op_eq (pv 9) pe_int (nomark _))
        (pss_cons (ps_set (i := 11) scOt.nd rfl (Or.inl rfl) (pe_ix ix_list (pe_lst (pa_cons pe_str (pa_cons pe_str pa_nil))) (pe_callTy (r := rInt) call_int' (by rfl) B.int (by decide +kernel) (pa_cons (pe_cmpR op_eq (pe_ix ix_tup (pv 4) (pv 5) (fun _ _ => rfl)) pe_str (nomark _)) pa_nil)) (fun _ _ => rfl)))
        (pss_one (ps_ret (pe_tup (pa_cons (pv 2) (pa_cons (pv 3) (pa_cons (pe_op op_U (pe_op op_U (pe_slice sl_U (pv 4) po_none (po_some (pv 5))) (pe_tup (pa_cons (pv 11) pa_nil))) (pe_slice sl_U (pv 4) (po_some (pe_op op_add (pv 5) pe_int)) po_none)) pa_nil)))))))
        pss_nil)
      (pss_cons (ps_if (PW.pt (pw_and (pt_cmpR op_eq (pv 9) pe_int (nomark _)) (pw_and1 (pt_cmpR op_gt (pe_callB call_len_seq (by rfl) B.len PySem.boot_len (pa_cons (pv 3) pa_nil)) pe_int (nomark _)))))
        (pss_one (ps_ret (pe_tup (pa_cons (pv 2) (pa_cons (pe_slice sl_U (pv 3) po_none (po_some (pe_un un_neg pe_int))) (pa_cons (pe_slice sl_U (pv 4) po_none (po_some (pe_un un_neg pe_int))) pa_nil))))))
        pss_nil)
      (pss_cons (ps_if (pt_cmpR op_lt (pv 2) pe_int (nomark _)) (pss_one (ps_ret (pe_tup (pa_cons pe_int (pa_cons (pv 3) (pa_cons (pv 4) pa_nil)))))) pss_nil)
      (pss_cons (ps_set (i := 12) scOt.nd rfl (Or.inl rfl) (pe_lst pa_nil))
      (pss_cons (ps_for PassesOwn.never rfl (pi_tup (pv 3)) (pg_name (i := 10) scOt.nd rfl (Or.inl rfl))
        (pss_one (ps_expr (pe_bm PySem.F.plainAttrs_list PySem.F.slot_list_append PySem.F.type_list_append mt_append (pv 12) (pa_cons (pe_callTy (r := rTup K) call_tup (by rfl) B.tuple (by decide +kernel) (pa_cons
          (pe_lc (own := [("_law_row", 8)]) (g := gName 8) (tt := tYes) (te := tCB (rTup K) (tCons (tLc (iTup K (tVar 8)) (gName 13) tYes (tCB rMin2 (tCons (tVar 13) (tCons (tC (.int 88)) tNil))) [13]) tNil)) rfl scOt.nd (pi_tup (pv 10)) (blkOk_by (N := nO) (sc := defScope sOther) (by decide +kernel))
            (fun _ _ _ _ _ => pg_name (i := 8) scOt.nd rfl (Or.inl rfl)) (fun _ _ _ _ _ => pts_nil)
            (fun _ _ _ _ _ => pe_callTy (r := rTup K) call_tup (by rfl) B.tuple (by decide +kernel) (pa_cons
              (pe_lc (own := [("_law_one", 13)]) (g := gName 13) (tt := tYes) (te := tCB rMin2 (tCons (tVar 13) (tCons (tC (.int 88)) tNil))) rfl scOt.nd (pi_tup (pv 8)) (blkOk_by (N := nO) (sc := relS scRow (defScope sOther)) (by decide +kernel))
                (fun _ _ _ _ _ => pg_name (i := 13) scOt.nd rfl (Or.inl rfl)) (fun _ _ _ _ _ => pts_nil)
                (fun _ _ _ _ _ => pe_callB (r := rMin2) (call_min' rfl) (by rfl) B.min (by decide +kernel) (pa_cons (pv 13) (pa_cons pe_int pa_nil)))) pa_nil))) pa_nil)) pa_nil)))))
      (pss_one (ps_ret (pe_tup (pa_cons pe_int (pa_cons (pe_callTy (r := rTup K) call_tup (by rfl) B.tuple (by decide +kernel) (pa_cons (pv 12) pa_nil)) (pa_cons (pv 4) pa_nil))))))))))))))))), ?_⟩
    have z0 : sizeLine = 16777216 := sizeLine_eq
    obtain ⟨a, ws, rfl, ha, hws⟩ := hw
    obtain ⟨b, rfl, hb⟩ := hk
    obtain ⟨wd, w1, w3, hW⟩ := S.wide
    have lW := S.some1
    have lW6 := S.most
    have lws : ws.length = W.length := pr_len hws
    obtain ⟨kl, kk⟩ := S.kinds
    obtain ⟨p2, p97⟩ := S.p_lt
    obtain ⟨m0, hm0⟩ : ∃ m0, W[0]? = some m0 := ⟨W[0], List.getElem?_eq_getElem (by omega)⟩
    obtain ⟨u0, hu0, b0, ms0, rfl, hb0, hms0⟩ := pr_get hws hm0
    have lm0 : ms0.length = wd := (pr_len hms0).trans (hW m0 (List.mem_of_getElem? hm0)).1
    -- the unpacking, the layer
    refine ⟨_, rfl, o, _, rfl, tupK ho, rfl, _, _, rfl, _, _, rfl, _, _, rfl, rfl, ?_⟩
    refine ⟨_, rfl, _, rfl, a, ws, rfl, .inr (tupK ha), h, dr, _, rfl, by omega, hh, fun vl H1 l0 l1 hh1 b1 => ?_⟩
    have t1 := hh.tk b1
    refine ⟨_, rfl, _, rfl, a, ws, 0, .ref b0, rfl, rfl, tupK (t1 _ _ ha), atI_nat (j := 0) hu0, b0, ms0, rfl, .inr (tupK (t1 _ _ hb0)), h, dr, _, rfl, by omega, hh1, fun vi H2 i0 i1 hh2 b2 => ?_⟩
    have t2 := t1.trans (hh1.tk b2)
    refine ⟨_, rfl, _, rfl, a, ws, 0, .ref b0, rfl, rfl, tupK (t2 _ _ ha), atI_nat (j := 0) hu0, b0, ms0, rfl, .inr (tupK (t2 _ _ hb0)), h, dr, _, rfl, by omega, hh2, fun vk H3 k0 k1 hh3 b3 => ?_⟩
    have t3 := t2.trans (hh2.tk b3)
    obtain ⟨l, rfl⟩ : ∃ l : Nat, vl = (l : Int) := ⟨vl.toNat, by omega⟩
    obtain ⟨i, rfl⟩ : ∃ i : Nat, vi = (i : Int) := ⟨vi.toNat, by omega⟩
    obtain ⟨k, rfl⟩ : ∃ k : Nat, vk = (k : Int) := ⟨vk.toNat, by omega⟩
    obtain ⟨m, hm⟩ : ∃ m, W[l]? = some m := ⟨W[l]'(by omega), List.getElem?_eq_getElem (by omega)⟩
    obtain ⟨u1, hu1, ma, ms, rfl, hma, hms⟩ := pr_get hws hm
    have mW := hW m (List.mem_of_getElem? hm)
    obtain ⟨r, hr'⟩ : ∃ r, m[i]? = some r := ⟨m[i]'(by omega), List.getElem?_eq_getElem (by omega)⟩
    obtain ⟨u2, hu2, ra, rfl, hra⟩ := pr_get hms hr'
    have rM := mW.2 r (List.mem_of_getElem? hr')
    obtain ⟨x, hx⟩ : ∃ x, r[k]? = some x := ⟨r[k]'(by omega), List.getElem?_eq_getElem (by omega)⟩
    refine ⟨_, rfl, _, rfl, a, ws, (l : Int), .ref ma, rfl, rfl, tupK (t3 _ _ ha), atI_nat hu1, _, rfl, ma, ms, (i : Int), .ref ra, rfl, rfl, tupK (t3 _ _ hma), atI_nat hu2, ?_⟩
    refine ⟨_, rfl, h, dr, 4, rfl, by decide, hh3, fun vq G q0 q1 hhG b4 => ?_⟩
    have tG := t3.trans (hh3.tk b4)
    have bG : But h H G := b1.trans (b2.trans (b3.trans b4))
    have haG := tG _ _ ha
    have hbG := tG _ _ hb
    have hwG : Paired (MatT G) ws W := pr_mono (fun _ _ => MatT.mono tG) hws
    have hmaG := tG _ _ hma
    have hmsG : Paired (RowT G) ms m := pr_mono (fun _ _ => RowT.mono tG) hms
    have hraG := tG _ _ hra
    -- kind 0
    refine ⟨_, rfl, rfl, _, rfl, ?_⟩
    refine ite2 (fun c => ?_) (fun c => ?_)
    · refine put_read (a := ra) (xs := r.map .int) (j := k) (y := .int ((x + 1) % p)) (by rw [List.length_map]; omega) (by rw [List.length_map]; omega) hraG (fun H' Q' s' e => ⟨_, rfl, e⟩) (fun H' Q' e => ⟨_, rfl, e⟩) (fun H' Q' s' e => ?_) fun t5 G5 s5 e5 => ?_
      · refine ⟨_, rfl, _, rfl, ra, r.map .int, (k : Int), .int x, rfl, rfl, tupK (s' _ _ hraG), atI_nat (by rw [List.getElem?_map, hx]; rfl), _, _, rfl, rfl, .inl ⟨_, rfl, _, rfl, _, _, rfl, rfl, (by show 0 < p; omega), (by show 1 ≤ sizeLine; omega), fun t n => ?_⟩⟩
        exact e t _ (same_upd n) upd_same
      · rw [put_map (f := V.int)] at e5
        have T5 := Tk.of s5
        show tOp rCatU (tOp rCatU (tSl rSlU (tOp (rIxT K) (tVar 3) (tVar 5)) tNoPart (tPart (tVar 6))) (tTup (tCons (tVar 8) tNil))) (tSl rSlU (tOp (rIxT K) (tVar 3) (tVar 5)) (tPart (tOp (rI0 fun i j => .int (i + j)) (tVar 6) (tC (.int 1)))) tNoPart) _ G5 _
        refine put_read (a := ma) (xs := ms) (j := i) (y := .ref t5) (by rw [pr_len hms]; omega) (by rw [pr_len hms]; omega) (T5 _ _ hmaG)
          (fun H' Q' s' e => ⟨_, rfl, _, rfl, a, ws, (l : Int), .ref ma, rfl, rfl, tupK ((Tk.of s') _ _ (T5 _ _ haG)), atI_nat hu1, e⟩) (fun H' Q' e => ⟨_, rfl, e⟩)
          (fun H' Q' s' e => ⟨_, rfl, (by show 1 ≤ sizeLine; omega), fun t n => e t _ (same_upd n) upd_same⟩) fun t6 G6 s6 e6 => ?_
        have T6 := T5.trans (Tk.of s6)
        refine ⟨_, rfl, ?_⟩
        show tOp rCatU (tOp rCatU (tSl rSlU (tVar 3) tNoPart (tPart (tVar 5))) (tTup (tCons (tVar 10) tNil))) (tSl rSlU (tVar 3) (tPart (tOp (rI0 fun i j => .int (i + j)) (tVar 5) (tC (.int 1)))) tNoPart) _ G6 _
        refine put_read (a := a) (xs := ws) (j := l) (y := .ref t6) (by omega) (by omega) (T6 _ _ haG) (fun H' Q' s' e => ⟨_, rfl, e⟩) (fun H' Q' e => ⟨_, rfl, e⟩)
          (fun H' Q' s' e => ⟨_, rfl, (by show 1 ≤ sizeLine; omega), fun t n => e t _ (same_upd n) upd_same⟩) fun t7 G7 s7 e7 => ?_
        refine ⟨_, rfl, (by show 3 ≤ sizeLine; omega), fun t8 n8 => ?_⟩
        have s8 := same_upd (o := .tup [.int p, .ref t7, .ref b]) n8
        have s678 := s6.trans (s7.trans s8)
        have all := s5.trans s678
        obtain ⟨S', neW⟩ := other_row S hm hr' hx
        have row : RowT (upd G7 t8 (.tup [.int p, .ref t7, .ref b])) (.ref t5) (put r k ((x + 1) % p)) := ⟨t5, rfl, s678 _ _ e5⟩
        have mat : MatT (upd G7 t8 (.tup [.int p, .ref t7, .ref b])) (.ref t6) (put m i (put r k ((x + 1) % p))) := ⟨t6, _, rfl, (s7.trans s8) _ _ e6, put_pr (pr_mono (fun _ _ => RowT.mono (Tk.of all)) hmsG) row⟩
        refine q t8 p _ ks _ S' ⟨.ref t7, .ref b, upd_same, ⟨t7, _, rfl, s8 _ _ e7, put_pr (pr_mono (fun _ _ => MatT.mono (Tk.of all)) hwG) mat⟩, ⟨b, rfl, all _ _ hbG⟩⟩ (fun e => neW e.2.1) (hhG.same all) (bG.trans (But.same all))
    -- kind 1
    · refine ⟨_, rfl, rfl, _, rfl, ?_⟩
      refine ite2 (fun c1 => ?_) (fun c1 => ?_)
      · obtain ⟨kd, hkd⟩ : ∃ kd, ks[l]? = some kd := ⟨ks[l]'(by omega), List.getElem?_eq_getElem (by omega)⟩
        refine ⟨(by show 2 ≤ sizeLine; omega), fun l1 n1 => ?_⟩
        have s1 := same_upd (o := .lst [V.str "line", .str "square"]) n1
        have ef : atI [V.str "line", .str "square"] (if decide (V.str kd = V.str "line") = true then 1 else 0) = some (.str (flip kd)) := by
          unfold flip
          by_cases e : kd = ("line" : Str)
          · rw [if_pos (decide_eq_true (by rw [e])), if_pos e]
            rfl
          · rw [if_neg (fun z => e (V.str.inj (of_decide_eq_true z))), if_neg e]
            rfl
        refine ⟨_, rfl, _, rfl, b, ks.map .str, (l : Int), .str kd, rfl, rfl, tupK (s1 _ _ hbG), atI_nat (by rw [List.getElem?_map, hkd]; rfl), rfl, .inr ⟨_, rfl, l1, _, _, .str (flip kd), rfl, rfl, lstK upd_same, ef, ?_⟩⟩
        refine ⟨_, rfl, _, rfl, ?_⟩
        show tOp rCatU (tOp rCatU (tSl rSlU (tVar 4) tNoPart (tPart (tVar 5))) (tTup (tCons (tVar 11) tNil))) (tSl rSlU (tVar 4) (tPart (tOp (rI0 fun i j => .int (i + j)) (tVar 5) (tC (.int 1)))) tNoPart) _ _ _
        refine put_read (a := b) (xs := ks.map .str) (j := l) (y := .str (flip kd)) (by rw [List.length_map]; omega) (by rw [List.length_map]; omega) (s1 _ _ hbG) (fun H' Q' s' e => ⟨_, rfl, e⟩) (fun H' Q' e => ⟨_, rfl, e⟩)
          (fun H' Q' s' e => ⟨_, rfl, (by show 1 ≤ sizeLine; omega), fun t n => e t _ (same_upd n) upd_same⟩) fun t7 G7 s7 e7 => ?_
        refine ⟨(by show 3 ≤ sizeLine; omega), fun t8 n8 => ?_⟩
        rw [put_map (f := V.str)] at e7
        have s8 := same_upd (o := .tup [.int p, .ref a, .ref t7]) n8
        have all := s1.trans (s7.trans s8)
        obtain ⟨S', neK⟩ := other_kind S hkd
        exact q t8 p W _ _ S' ⟨.ref a, .ref t7, upd_same, ⟨a, ws, rfl, all _ _ haG, pr_mono (fun _ _ => MatT.mono (Tk.of all)) hwG⟩, ⟨t7, rfl, s8 _ _ e7⟩⟩ (fun e => neK e.2.2) (hhG.same all) (bG.trans (But.same all))
      -- behind: p < 97, or the least
      · have tail := other_tail (K := K) (Q := Q) (E := E) (v0 := .ref h) (v1 := .ref o) (v5 := .int (l : Int)) (v6 := .int (i : Int)) (v7 := .int (k : Int)) (v8 := .ref ra) (v9 := .int vq) S haG hwG hbG
          (fun t q' Z H' s' S' O' ne => q t q' Z ks H' S' O' (fun e => ne e.1) (hhG.same s') (bG.trans (But.same s')))
        refine ⟨_, rfl, rfl, _, rfl, ?_⟩
        refine ite2 (fun c2 => ?_) (fun c2 => iteF tail)
        refine ⟨_, rfl, a, ws, rfl, .inr (tupK haG), _, _, rfl, rfl, _, rfl, ?_⟩
        by_cases c3 : (1 : Int) < (ws.length : Int)
        · rw [decide_eq_true c3]
          refine iteT ?_
          refine ⟨_, rfl, _, rfl, 1, rfl, _, rfl, a, ws, rfl, haG, fun t1 G1 s1 e1 => ?_⟩
          refine ⟨_, rfl, 1, rfl, _, rfl, b, ks.map .str, rfl, s1 _ _ hbG, fun t2 G2 s2 e2 => ⟨(by show 3 ≤ sizeLine; omega), fun t3 n3 => ?_⟩⟩
          rw [cut_last (by omega)] at e1
          rw [cut_last (by rw [List.length_map]; omega), List.length_map, ← List.map_take] at e2
          have s3 := same_upd (o := .tup [.int p, .ref t1, .ref t2]) n3
          have all := s1.trans (s2.trans s3)
          obtain ⟨S', neW⟩ := other_less S (by omega)
          refine q t3 p _ _ _ S' ⟨.ref t1, .ref t2, upd_same, ⟨t1, _, rfl, (s2.trans s3) _ _ e1, ?_⟩, ⟨t2, rfl, s3 _ _ e2⟩⟩ (fun e => neW e.2.1) (hhG.same all) (bG.trans (But.same all))
          rw [lws]
          exact pr_take _ (pr_mono (fun _ _ => MatT.mono (Tk.of all)) hwG)
        · rw [decide_eq_false c3]
          exact iteF tail
end
end
end NO

set_option Elab.async false
set_option linter.all false
set_option maxRecDepth 100000
set_option maxHeartbeats 16000000
/-! The law's def. -/
namespace NL
open PySem PySem.Spec PyProof.Rows L2 ND NR NH NA NB NC ND2 NE NF NG NO
section
variable {P : Program} {w : World} {K : PySem.W.Frag} {mg : Str → Option Value} {base : Heap} {C CX : Addr}
abbrev nL : List Str := ["_law_script", "_law_hand", "_law_own", "_law_passed", "_law_names", "_law_net_here", "_law_other_here", "_law_near", "_law_odd_here", "_law_matrix", "_law_row"]
theorem scLw : FnScope nL ["_law_script"] (defScope sLaw) := ⟨rfl, rfl, rfl, by decide +kernel, rfl, by decide +kernel, by decide +kernel⟩
/-- list(x), x a list or a tuple -/
def rLst (K : PySem.W.Frag) : List V → Hp → VK → Prop := fun xs H Q => ∃ p ys, xs = [.ref p] ∧ (SqL K H p ys ∨ SqT K H p ys) ∧ ∀ l, H l = none → Q (.ref l) (upd H l (.lst ys))
theorem call_lst {X : Cx} : CallR X (.type "list") (rLst X.K) := call_list_of
def scMat : Scope := { kind := .function, names := [(".0", .local), ("_law_matrix", .local)], isGenerator := false, isCoroutine := false }
/-! ### lists of lists, all of them new -/
def RowL (N : Addr → Prop) (H : Hp) (v : V) (r : Rw) : Prop := ∃ a, v = .ref a ∧ N a ∧ H a = some (.lst (r.map .int))
def MatL (N : Addr → Prop) (H : Hp) (v : V) (m : Mat) : Prop := ∃ a vs, v = .ref a ∧ N a ∧ H a = some (.lst vs) ∧ Paired (RowL N H) vs m
theorem RowL.mono {N N' : Addr → Prop} {H H' : Hp} {v : V} {r : Rw} (k : ∀ b xs, N b → H b = some (.lst xs) → N' b ∧ H' b = some (.lst xs)) (h : RowL N H v r) : RowL N' H' v r :=
  let ⟨a, e, n, q⟩ := h
  ⟨a, e, (k _ _ n q).1, (k _ _ n q).2⟩
theorem MatL.mono {N N' : Addr → Prop} {H H' : Hp} {v : V} {m : Mat} (k : ∀ b xs, N b → H b = some (.lst xs) → N' b ∧ H' b = some (.lst xs)) (h : MatL N H v m) : MatL N' H' v m :=
  let ⟨a, vs, e, n, q, z⟩ := h
  ⟨a, vs, e, (k _ _ n q).1, (k _ _ n q).2, pr_mono (fun _ _ => RowL.mono k) z⟩
theorem RowL.s {N : Addr → Prop} {H H' : Hp} {v : V} {r : Rw} (s : Same H H') (h : RowL N H v r) : RowS H' v r := let ⟨a, e, n, q⟩ := h; ⟨a, e, .inr (s _ _ q)⟩
theorem MatL.s {N : Addr → Prop} {H H' : Hp} {v : V} {m : Mat} (s : Same H H') (h : MatL N H v m) : MatS H' v m := let ⟨a, vs, e, n, q, z⟩ := h; ⟨a, vs, e, .inr (s _ _ q), pr_mono (fun _ _ => RowL.s s) z⟩
theorem at_last {xs : List V} {y : V} {k : Nat} (h : xs[k]? = some y) (e : xs.length = k + 1) : atI xs (-1) = some y := by
  unfold atI ixN
  rw [if_neg (by decide), if_pos (by omega)]
  have : ((-1 : Int) + (xs.length : Int)).toNat = k := by omega
  rw [this]
  exact h
/-! ### what stands from there on -/
structure Al (h dr o x C : Addr) (p : Int) (W : List Mat) (ks : List Str) (H : Hp) : Prop where
  hand : Hand h dr H
  own : Own H o p W ks
  net : NetAt C H x p W ks
section
variable {h dr o x : Addr} {p : Int} {W : List Mat} {ks : List Str} {H H' : Hp}
theorem Al.same (z : Al h dr o x C p W ks H) (s : Same H H') : Al h dr o x C p W ks H' := ⟨z.hand.same s, z.own.mono (Tk.of s), z.net.mono (Tk.of s) fun u e => s _ _ e⟩
theorem Al.but (z : Al h dr o x C p W ks H) (b : But h H H') (hh : Hand h dr H') : Al h dr o x C p W ks H' := by
  have tk := z.hand.tk b
  refine ⟨hh, z.own.mono tk, z.net.mono tk fun u e => b _ _ (fun ex => ?_) e⟩
  obtain ⟨ds, k, e1, _⟩ := z.hand
  obtain ⟨dx, w', k', hx, _⟩ := z.net
  rw [ex, e1] at hx
  cases hx
theorem Al.upd {L : Addr} {ys zs : List V} (z : Al h dr o x C p W ks H) (n1 : L ≠ h) (n2 : L ≠ dr) (e : H L = some (.lst ys)) : Al h dr o x C p W ks (upd H L (.lst zs)) := by
  have tk : Tk H (L2.upd H L (.lst zs)) := tk_push e
  refine ⟨z.hand.upd n1 n2, z.own.mono tk, z.net.mono tk fun u e' => ?_⟩
  obtain ⟨dx, w', k', hx, _⟩ := z.net
  rw [upd_ne (ne_of hx e (by intro z; cases z))]
  exact e'
end
theorem nf_self : PySem.W.notFirst K C (.ref C) = true := by
  unfold PySem.W.notFirst
  rw [beq_self_eq_true, Bool.true_or]
theorem tw_eq : ((10 : Int) ^ (20 : Int).toNat) = 10 ^ 20 := congrArg (fun n => (10 : Int) ^ n) (show (20 : Int).toNat = 20 from rfl)
def litD : List PyData := [.int 0, .int 1, .int 4, .int 9, .int 91, .int 95, .int 98, .int 101, .int (10 ^ 20), .int (-7), .int (-2), .int 49, .int 77, .int 6, .bool true]
theorem lit_odd : ∀ d : PyData, d ∈ litD → d ∈ oddD := fun d hd => by
  have e : oddD = ([.none] : List PyData) ++ ([.bool true] ++ ([.int (-1), .str "0", .tuple [], .list [], .int (10 ^ 30), .str "", .tuple [.int 1], .list [.int 0], .bool false] ++
    [.int 0, .int 1, .int 4, .int 9, .int 91, .int 95, .int 98, .int 101, .int (10 ^ 20), .int (-7), .int (-2), .int 49, .int 77, .int 6])) := rfl
  have e2 : litD = ([.int 0, .int 1, .int 4, .int 9, .int 91, .int 95, .int 98, .int 101, .int (10 ^ 20), .int (-7), .int (-2), .int 49, .int 77, .int 6] : List PyData) ++ [.bool true] := rfl
  rw [e2] at hd
  rw [e]
  rcases List.mem_append.mp hd with hd | hd
  · exact List.mem_append_right _ (List.mem_append_right _ (List.mem_append_right _ hd))
  · exact List.mem_append_right _ (List.mem_append_left _ hd)
section
variable {fT fD fO fN fI fR fH fK fOd fE : Addr} {fdT fdD fdO fdN fdI fdR fdH fdK fdOd fdE : FuncData}
theorem ok_law {f : Addr} {fd : FuncData} (FN : Fun K "law" "law" sLaw f fd) (B : Bl mg) (T : Nt K mg C) (M : Mk K C fN)
    (GT : FnOk P w K mg base CX0 1 fT fdT ["_law_hand", "_law_many"] spTake) (bT : Binds K fdT ["_law_hand", "_law_many"] []) (mT : mg "_law_take" = some (.ref fT)) (kT : PySem.W.keepIn K (.ref fT) = true)
    (GD : FnOk P w K mg base CX0 1 fD fdD ["_law_script", "_law_many"] (spDraws K)) (bD : Binds K fdD ["_law_script", "_law_many"] []) (mD : mg "_law_draws" = some (.ref fD)) (kD : PySem.W.keepIn K (.ref fD) = true)
    (GO : FnOk P w K mg base CX0 3 fO fdO ["_law_hand", "_law_most"] spNet) (bO : Binds K fdO ["_law_hand", "_law_most"] []) (mO : mg "_law_net" = some (.ref fO)) (kO : PySem.W.keepIn K (.ref fO) = true)
    (GN : FnOk P w K mg base (L2.CX P w) 3 fN fdN ["self", "prime", "weights", "kinds"] (spNI C CX)) (bN : KBn K fdN ["self", "prime", "weights", "kinds"] 1 ["prime", "weights", "kinds"] (fun us ws => us ++ ws) (fun vs zs => vs ++ zs))
    (GI : GFn P w K mg base 3 fI fdI ["_law_net_here", "_law_own"] (spIs C)) (bI : Binds K fdI ["_law_net_here", "_law_own"] []) (mI : mg "_law_is" = some (.ref fI)) (kI : PySem.W.keepIn K (.ref fI) = true)
    (GR : GFn P w K mg base 5 fR fdR ["_law_value", "_law_own"] spRef) (bR : Binds K fdR ["_law_value", "_law_own"] []) (mR : mg "_law_refused" = some (.ref fR)) (kR : PySem.W.keepIn K (.ref fR) = true)
    (GH : FnOk P w K mg base CX0 2 fH fdH ["_law_hand", "_law_own"] spOther) (bH : Binds K fdH ["_law_hand", "_law_own"] []) (mH : mg "_law_other" = some (.ref fH)) (kH : PySem.W.keepIn K (.ref fH) = true)
    (GK : FnOk P w K mg base CX0 5 fK fdK ["_law_own"] (spLike C)) (bK : Binds K fdK ["_law_own"] []) (mK : mg "_law_like" = some (.ref fK)) (kK : PySem.W.keepIn K (.ref fK) = true)
    (GOd : FnOk P w K mg base CX0 2 fOd fdOd ["_law_hand"] spOdd) (bOd : Binds K fdOd ["_law_hand"] []) (mOd : mg "_law_odd" = some (.ref fOd)) (kOd : PySem.W.keepIn K (.ref fOd) = true)
    (GE : FnOk P w K mg base CX0 1 fE fdE ["self", "other"] (spEq K C)) (bE : Binds K fdE ["self", "other"] []) (eE : PySem.W.findIn K (.ref C) "__eq__" = some (some (.ref fE))) (eN : PySem.W.findIn K (.ref C) "__ne__" = some (some (.builtin "object.__ne__")))
    (iE : PySem.W.isFn K (.ref fE) = true) (sO : PySem.W.subIn K (.ref C) (.type "object") = some true)
    (nT : PySem.W.notFirst K C (.type "tuple") = true) (nN : PySem.W.notFirst K C (.type "NoneType") = true) (nI : PySem.W.notFirst K C (.type "int") = true)
    (tT : PySem.W.kitOne K (.type "tuple") (.ref C) = some false) (tN : PySem.W.kitOne K (.type "NoneType") (.ref C) = some false) (tI : PySem.W.kitOne K (.type "int") (.ref C) = some false) :
    GFn P w K mg base 6 f fd ["_law_script"] (spLaw K) := by
  refine gfn_of FN scLw (fun vs H Q E h => ?_) (fun cdv A outer s H vs Q hg hr h => ?_)
  · obtain ⟨a, ns, rfl, _⟩ := h
    rfl
  · obtain ⟨a, ns, rfl, hS, hn, q⟩ := h
    have hr1 : Room 1 _ := hr.mono (by decide)
    have hr2 : Room 2 _ := hr.mono (by decide)
    have hr3 : Room 3 _ := hr.mono (by decide)
    have hr4 : Room 4 _ := hr.mono (by decide)
    refine ⟨_, pss_cons (ps_set (i := 1) scLw.nd rfl (Or.inl rfl) (pe_lst (pa_cons (pe_call GD hr1 (by rfl) mD kD bD .nil pass0 (pa_cons (pv 0) (pa_cons pe_int pa_nil))) (pa_cons pe_int pa_nil))))
      (pss_cons (ps_set (i := 2) scLw.nd rfl (Or.inl rfl) (pe_call GO hr3 (by rfl) mO kO bO .nil pass0 (pa_cons (pv 1) (pa_cons pe_int pa_nil))))
      (pss_cons (ps_setLc (i := 3) (own := [("_law_matrix", 9)]) (g := gName 9) (tt := tYes) (te := tLc (iTup K (tVar 9)) (gName 10) tYes (tCB (rLst K) (tCons (tVar 10) tNil)) [10]) rfl scLw.nd rfl rfl (sw_true rfl rfl rfl (by decide +kernel))
          (pi_tup (pe_ix ix_tup (pv 2) pe_int (fun _ _ => rfl))) (blkOk_by (N := nL) (sc := defScope sLaw) (by decide +kernel)) (fun _ _ _ _ _ => pg_name (i := 9) scLw.nd rfl (Or.inl rfl)) (fun _ _ _ _ _ => pts_nil)
          (fun _ _ _ _ _ => pe_lc (own := [("_law_row", 10)]) (g := gName 10) (tt := tYes) (te := tCB (rLst K) (tCons (tVar 10) tNil)) rfl scLw.nd (pi_tup (pv 9)) (blkOk_by (N := nL) (sc := relS scMat (defScope sLaw)) (by decide +kernel))
            (fun _ _ _ _ _ => pg_name (i := 10) scLw.nd rfl (Or.inl rfl)) (fun _ _ _ _ _ => pts_nil) (fun _ _ _ _ _ => pe_callTy (r := rLst K) call_lst (by rfl) B.list (by decide +kernel) (pa_cons (pv 10) pa_nil))))
      (pss_cons (ps_set (i := 4) scLw.nd rfl (Or.inl rfl) (pe_callTy (r := rLst K) call_lst (by rfl) B.list (by decide +kernel) (pa_cons (pe_ix ix_tup (pv 2) pe_int (fun _ _ => rfl)) pa_nil)))
      (pss_cons (ps_set (i := 5) scLw.nd rfl (Or.inl rfl) (pe_makeK0 M GN hr4 (by rfl) T.mgC bN passL (pk_cons (pe_ix ix_tup (pv 2) pe_int (fun _ _ => rfl)) (pk_cons (pv 3) (pk_cons (pv 4) pk_nil)))))
      (pss_cons (ps_asg (pe_op op_mod (pe_callTy (r := rInt) call_int' (by rfl) B.int (by decide +kernel) (pa_cons (pe_op op_add (pe_ix ix_list (pe_ix ix_list (pe_ix ix_list (pv 3) pe_int (fun _ _ => rfl)) pe_int (fun _ _ => rfl)) pe_int (fun _ _ => rfl)) pe_int) pa_nil)) (pe_ix ix_tup (pv 2) pe_int (fun _ _ => rfl)))
          (pg_sub (pe_ix ix_list (pe_ix ix_list (pv 3) pe_int (fun _ _ => rfl)) pe_int (fun _ _ => rfl)) pe_int set_list))
      (pss_cons (ps_expr (pe_bm PySem.F.plainAttrs_list PySem.F.slot_list_append PySem.F.type_list_append mt_append (pe_ix ix_list (pv 3) (pe_un un_neg pe_int) (fun _ _ => rfl)) (pa_cons (pe_lst (pa_cons pe_int pa_nil)) pa_nil)))
      (pss_cons (ps_asg pe_str (pg_sub (pv 4) pe_int set_list))
      (pss_cons (ps_if (PW.pt (pw_or (pt_not (pt_val (pe_callG GI hg hr3 (by rfl) mI kI bI (pa_cons (pv 5) (pa_cons (pv 2) pa_nil)))))
          (pw_or1 (pt_not (pt_val (pe_callG GI hg hr3 (by rfl) mI kI bI (pa_cons (pe_call GK hr (by rfl) mK kK bK .nil pass0 (pa_cons (pv 2) pa_nil)) (pa_cons (pv 2) pa_nil)))))))) (pss_one (ps_ret pe_bl)) pss_nil)
      (pss_cons (ps_if (PW.pt (pw_or (pt_cmpR op_notBl (pe_cmpR (op_eqO GE hr1 bE eE iE) (pv 5) (pe_call GK hr (by rfl) mK kK bK .nil pass0 (pa_cons (pv 2) pa_nil)) (nomark _)) pe_bl (nomark _))
          (pw_or1 (pt_cmpR op_notBl (pe_cmpR (op_neO GE hr2 bE eE eN iE sO) (pv 5) (pe_call GK hr (by rfl) mK kK bK .nil pass0 (pa_cons (pv 2) pa_nil)) (nomark _)) pe_bl (nomark _))))) (pss_one (ps_ret pe_bl)) pss_nil)
      (pss_cons (ps_set (i := 6) scLw.nd rfl (Or.inl rfl) (pe_call GH hr2 (by rfl) mH kH bH .nil pass0 (pa_cons (pv 1) (pa_cons (pv 2) pa_nil))))
      (pss_cons (ps_set (i := 7) scLw.nd rfl (Or.inl rfl) (pe_call GK hr (by rfl) mK kK bK .nil pass0 (pa_cons (pv 6) pa_nil)))
      (pss_cons (ps_if (PW.pt (pw_or (pt_not (pt_val (pe_callG GI hg hr3 (by rfl) mI kI bI (pa_cons (pv 7) (pa_cons (pv 6) pa_nil)))))
          (pw_or (pt_cmpR op_notBl (pe_cmpR (op_eqO GE hr1 bE eE iE) (pv 5) (pv 7) (nomark _)) pe_bl (nomark _)) (pw_or1 (pt_cmpR op_notBl (pe_cmpR (op_neO GE hr2 bE eE eN iE sO) (pv 5) (pv 7) (nomark _)) pe_bl (nomark _)))))) (pss_one (ps_ret pe_bl)) pss_nil)
      (pss_cons (ps_if (PW.pt (pw_or (pt_cmpR op_notBl (pe_cmpR (op_eqO GE hr1 bE eE iE) (pv 5) (pv 2) (nomark _)) pe_bl (nomark _))
          (pw_or (pt_cmpR op_notBl (pe_cmpR (op_eqO GE hr1 bE eE iE) (pv 5) pe_non (nomark _)) pe_bl (nomark _)) (pw_or1 (pt_cmpR op_notBl (pe_cmpR (op_neO GE hr2 bE eE eN iE sO) (pv 5) (pe_ix ix_tup (pv 2) pe_int (fun _ _ => rfl)) (nomark _)) pe_bl (nomark _)))))) (pss_one (ps_ret pe_bl)) pss_nil)
      (pss_cons (ps_set (i := 8) scLw.nd rfl (Or.inl rfl) (pe_lst (pa_cons pe_int (pa_cons pe_int (pa_cons pe_int (pa_cons pe_int (pa_cons pe_int (pa_cons pe_int (pa_cons pe_int (pa_cons pe_int (pa_cons (pe_op op_pow pe_int pe_int)
          (pa_cons (pe_un un_neg pe_int) (pa_cons (pe_un un_neg pe_int) (pa_cons pe_int (pa_cons pe_int (pa_cons pe_int (pa_cons pe_bl (pa_cons (pe_call GOd hr2 (by rfl) mOd kOd bOd .nil pass0 (pa_cons (pv 1) pa_nil)) pa_nil))))))))))))))))))
      (pss_one (ps_ret (pe_and (pe_callG GR hg hr (by rfl) mR kR bR (pa_cons (pe_ix ix_list (pv 8) (pe_call GT hr1 (by rfl) mT kT bT .nil pass0 (pa_cons (pv 1) (pa_cons pe_int pa_nil))) (fun _ _ => rfl)) (pa_cons (pv 2) pa_nil)))
          (pe_one (pe_callG GI hg hr3 (by rfl) mI kI bI (pa_cons (pv 5) (pa_cons (pv 2) pa_nil))))))))))))))))))))), ?_⟩
    -- the hand, own
    refine ⟨_, rfl, a, ns, rfl, hS, hn, fun dr ds H1 s1 hdr => ⟨(by show 2 ≤ sizeLine; decide), fun hd nh => ?_⟩⟩
    have hh2 : Hand hd dr (upd H1 hd (.lst [.ref dr, .int 0])) := ⟨ds, 0, upd_same, (same_upd nh) _ _ hdr⟩
    revert hh2
    generalize upd H1 hd (.lst [V.ref dr, .int 0]) = H2
    intro hh2
    refine ⟨_, rfl, hd, dr, rfl, hh2, fun o p W ks H3 S hO hh3 _ => ?_⟩
    obtain ⟨w', k', ho, ⟨wa, ws, rfl, hwa, hws⟩, ⟨kb, rfl, hkb⟩⟩ := id hO
    -- the lists that are passed
    refine ⟨_, rfl, o, _, 1, .ref wa, rfl, rfl, tupK ho, rfl, wa, rfl, ⟨_, tupK hwa⟩, fun D hD => lc_tup (K := K) (a := wa) (xs := ws)
      (fun j H' => Same H3 H' ∧ ∃ acc, H' D = some (.lst acc) ∧ Paired (MatL (fun b => H3 b = none ∧ b ≠ D) H') acc (W.take j)) ⟨same_upd hD, [], upd_same, .nil⟩ (fun j H' _ z => tupK (z.1 _ _ hwa)) ?_ ?_⟩
    · rintro j y G1 hy ⟨s1', acc, hacc, pr⟩
      obtain ⟨m, hm, ma, ms, rfl, hma, hms⟩ := pr_get' hws hy
      have lm : m.length ≤ 3 := (S.rows m (List.mem_of_getElem? hm)).1
      have hma1 := s1' _ _ hma
      refine ⟨rfl, _, rfl, ma, rfl, ⟨_, tupK hma1⟩, fun D2 hD2 => lc_tup (K := K) (a := ma) (xs := ms)
        (fun i H' => Same G1 H' ∧ ∃ acc2, H' D2 = some (.lst acc2) ∧ Paired (RowL (fun b => G1 b = none ∧ b ≠ D2) H') acc2 (m.take i)) ⟨same_upd hD2, [], upd_same, .nil⟩ (fun i H' _ z => tupK (z.1 _ _ hma1)) ?_ ?_⟩
      · rintro i u G2 hu ⟨s2, acc2, hacc2, pr2⟩
        obtain ⟨r, hr', ra, rfl, hra⟩ := pr_get' hms hu
        have la : acc2.length < sizeLine := by
          rw [pr_len pr2, List.length_take, sizeLine_eq]
          omega
        refine ⟨rfl, _, rfl, ra, r.map .int, rfl, .inr (tupK (s2 _ _ (s1' _ _ hra))), fun l hl => ?_⟩
        have nl : D2 ≠ l := ne_of_none hacc2 hl
        have hacc3 : (upd G2 l (.lst (r.map .int))) D2 = some (.lst acc2) := by rw [upd_ne nl]; exact hacc2
        refine ⟨acc2, hacc3, la, same_push (s2.trans (same_upd hl)) hD2, _, upd_same, ?_⟩
        rw [snoc_take hr']
        refine pr_snoc ⟨l, rfl, ⟨s2.free hl, nl.symm⟩, by rw [upd_ne nl.symm]; exact upd_same⟩ (pr_mono (fun _ _ => RowL.mono fun b xs n e => ⟨n, ?_⟩) pr2)
        rw [upd_ne n.2, upd_ne (ne_of_none e hl)]
        exact e
      · rintro G2 ⟨s2, acc2, hacc2, pr2⟩
        rw [pr_len hms, List.take_length] at pr2
        have la : acc.length < sizeLine := by
          have := S.most
          rw [pr_len pr, List.length_take, sizeLine_eq]
          omega
        have nD : D2 ≠ D := (ne_of_none hacc hD2).symm
        refine ⟨acc, s2 _ _ hacc, la, same_push (s1'.trans s2) hD, _, upd_same, ?_⟩
        rw [snoc_take hm]
        refine pr_snoc ⟨D2, acc2, rfl, ⟨s1'.free hD2, nD⟩, by rw [upd_ne nD]; exact hacc2, pr_mono (fun _ _ => RowL.mono fun b xs n e => ?_) pr2⟩ (pr_mono (fun _ _ => MatL.mono fun b xs n e => ⟨n, ?_⟩) pr)
        · rw [upd_ne n.2]
          exact s2 _ _ e
        · have nb : b ≠ D := (ne_of_none hacc n.1).symm
          refine ⟨⟨s1'.free n.1, nb⟩, ?_⟩
          rw [upd_ne nb]
          exact e
    · rintro H4 ⟨s34, acc, hacc, pr⟩
      rw [pr_len hws, List.take_length] at pr
      have ho4 := s34 _ _ ho
      have hkb4 := s34 _ _ hkb
      -- the names, the net
      refine ⟨_, rfl, o, _, 2, .ref kb, rfl, rfl, tupK ho4, rfl, kb, ks.map .str, rfl, .inr (tupK hkb4), fun ln hln => ?_⟩
      have s45 := same_upd (o := .lst (ks.map V.str)) hln
      have hn5 : (upd H4 ln (.lst (ks.map V.str))) ln = some (.lst (ks.map .str)) := upd_same
      revert s45 hn5
      generalize upd H4 ln (.lst (ks.map V.str)) = H5
      intro s45 hn5
      have ho5 := s45 _ _ ho4
      refine ⟨_, rfl, o, _, 0, .int p, rfl, rfl, tupK ho5, rfl, _, rfl, _, rfl, rfl, rfl, fun x dx nx ndx ne => ?_⟩
      have sm : Same H5 (upd (upd H5 dx (.own x)) x (.ins C dx [])) := (same_upd ndx).trans (same_upd (by rw [upd_ne ne.symm]; exact nx))
      obtain ⟨z1, z2, z3⟩ := shape_small S
      have hD5 := s45 _ _ hacc
      refine ⟨x, dx, .int p, .ref D, .ref ln, W, ks, rfl, upd_same, by rw [upd_ne ne, upd_same], .inl ⟨p, rfl, z1, z2, z3, ⟨D, acc, rfl, .inr (sm _ _ hD5), pr_mono (fun _ _ => MatL.s (s45.trans sm)) pr⟩, ⟨ln, rfl, .inr (sm _ _ hn5)⟩, fun H6 kp hN6 => ⟨rfl, ?_⟩⟩⟩
      have s56 : Same H5 H6 := same_made nx ndx kp
      have s46 := s45.trans s56
      have s36 := s34.trans s46
      have A6 : Al hd dr o x C p W ks H6 := ⟨hh3.same s36, hO.mono (Tk.of s36), hN6⟩
      have hD6 := s46 _ _ hacc
      have hn6 := s56 _ _ hn5
      have ho6 := s36 _ _ ho
      have pr6 : Paired (MatL (fun b => (H3 b = none ∧ b ≠ D) ∧ b ≠ ln) H6) acc W := pr_mono (fun _ _ => MatL.mono fun b xs n e => ⟨⟨n, ne_of_none e hln⟩, s46 _ _ e⟩) pr
      have nDln : D ≠ ln := ne_of_none hacc hln
      obtain ⟨m0, hm0⟩ : ∃ m0, W[0]? = some m0 := ⟨W[0]'(by have := S.some1; omega), List.getElem?_eq_getElem _⟩
      obtain ⟨wd, w1, w3, hW⟩ := S.wide
      obtain ⟨hm0l, hm0r⟩ := hW m0 (List.mem_of_getElem? hm0)
      obtain ⟨r0, hr0⟩ : ∃ r0, m0[0]? = some r0 := ⟨m0[0]'(by omega), List.getElem?_eq_getElem _⟩
      obtain ⟨x0, hx0⟩ : ∃ x0, r0[0]? = some x0 := ⟨r0[0]'(by have := (hm0r r0 (List.mem_of_getElem? hr0)).1; omega), List.getElem?_eq_getElem _⟩
      obtain ⟨u0, hu0, M0, ms0, rfl, nM0, hM0, hms0⟩ := pr_get pr6 hm0
      obtain ⟨u1, hu1, R0, rfl, nR0, hR0⟩ := pr_get hms0 hr0
      obtain ⟨p2, p97⟩ := S.p_lt
      have r0l := (hm0r r0 (List.mem_of_getElem? hr0)).1
      obtain ⟨nR0h, nR0d⟩ := hh3.new nR0.1.1
      have ar : atI (r0.map V.int) 0 = some (.int x0) := atI_nat (j := 0) (by rw [List.getElem?_map, hx0]; rfl)
      -- passed[0][0][0] = ..
      refine ⟨_, rfl, D, acc, 0, .ref M0, rfl, rfl, lstK hD6, atI_nat (j := 0) hu0, M0, ms0, 0, .ref R0, rfl, rfl, lstK hM0, atI_nat (j := 0) hu1, R0, r0.map .int, 0, .int x0, rfl, rfl, lstK hR0, ar, _, _, rfl, rfl, .inl ⟨_, rfl, _, rfl, o, _, 0, .int p, rfl, rfl, tupK ho6, rfl, _, _, rfl, rfl, (by show (0 : Int) < p; omega), ?_⟩⟩
      refine ⟨_, rfl, D, acc, 0, .ref M0, rfl, rfl, lstK hD6, atI_nat (j := 0) hu0, M0, ms0, 0, .ref R0, rfl, rfl, lstK hM0, atI_nat (j := 0) hu1, R0, r0.map .int, 0, 0, rfl, rfl, hR0, ?_, ?_⟩
      · unfold ixN
        rw [List.length_map, if_pos (by omega), if_pos (by omega)]
        rfl
      have A7 := A6.upd (L := R0) (zs := (r0.map V.int).set 0 (.int ((x0 + 1) % p))) nR0h nR0d hR0
      have hD7 : (upd H6 R0 (.lst ((r0.map V.int).set 0 (.int ((x0 + 1) % p))))) D = some (.lst acc) := by rw [upd_ne nR0.1.2.symm]; exact hD6
      have hn7 : (upd H6 R0 (.lst ((r0.map V.int).set 0 (.int ((x0 + 1) % p))))) ln = some (.lst (ks.map .str)) := by rw [upd_ne nR0.2.symm]; exact hn6
      obtain ⟨mZ, hmZ⟩ : ∃ mZ, W[W.length - 1]? = some mZ := ⟨W[W.length - 1]'(by have := S.some1; omega), List.getElem?_eq_getElem _⟩
      obtain ⟨hmZl, hmZr⟩ := hW mZ (List.mem_of_getElem? hmZ)
      obtain ⟨uZ, huZ, MZ, msZ, rfl, nMZ, hMZ, hmsZ⟩ := pr_get pr6 hmZ
      obtain ⟨nMZh, nMZd⟩ := hh3.new nMZ.1.1
      have nZR : MZ ≠ R0 := fun e => by
        rw [e, hR0] at hMZ
        have e' : r0.map V.int = msZ := HO.lst.inj (Option.some.inj hMZ)
        obtain ⟨rZ, hrZ⟩ : ∃ rZ, mZ[0]? = some rZ := ⟨mZ[0]'(by omega), List.getElem?_eq_getElem _⟩
        obtain ⟨u2, hu2, R2, e2, _⟩ := pr_get hmsZ hrZ
        rw [← e', List.getElem?_map, hx0] at hu2
        have e3 : V.int x0 = u2 := Option.some.inj hu2
        rw [e2] at e3
        cases e3
      have hMZ7 : (upd H6 R0 (.lst ((r0.map V.int).set 0 (.int ((x0 + 1) % p))))) MZ = some (.lst msZ) := by rw [upd_ne nZR]; exact hMZ
      have lacc : acc.length = W.length := pr_len pr6
      have lmsZ : msZ.length = mZ.length := pr_len hmsZ
      revert A7 hD7 hn7 hMZ7
      generalize upd H6 R0 (.lst ((r0.map V.int).set 0 (.int ((x0 + 1) % p)))) = H7
      intro A7 hD7 hn7 hMZ7
      -- passed[-1].append([0]), names[0] = ..
      refine ⟨_, rfl, 1, rfl, D, acc, -1, .ref MZ, rfl, rfl, lstK hD7, at_last huZ (by have := S.some1; omega), .inl ⟨rfl, _, lstK hMZ7⟩, (by show 1 ≤ sizeLine; decide), fun l0 n0 => ?_⟩
      refine ⟨MZ, msZ, _, rfl, rfl, (same_upd n0) _ _ hMZ7, by rw [lmsZ, hmZl, sizeLine_eq]; omega, ?_⟩
      have A8 := (A7.same (same_upd (o := .lst [.int 0]) n0)).upd (L := MZ) (zs := msZ ++ [.ref l0]) nMZh nMZd ((same_upd n0) _ _ hMZ7)
      have hn8 : (upd (upd H7 l0 (.lst [.int 0])) MZ (.lst (msZ ++ [.ref l0]))) ln = some (.lst (ks.map .str)) := by
        rw [upd_ne nMZ.2.symm]
        exact (same_upd n0) _ _ hn7
      refine ⟨_, rfl, ln, ks.map .str, 0, 0, rfl, rfl, hn8, ?_, ?_⟩
      · have := S.kinds.1
        have := S.some1
        unfold ixN
        rw [List.length_map, if_pos (by omega), if_pos (by omega)]
        rfl
      have nl : H3 ln = none := s34.free hln
      obtain ⟨nlh, nld⟩ := hh3.new nl
      have A9 := A8.upd (L := ln) (zs := (ks.map V.str).set 0 (.str "other")) nlh nld hn8
      revert A9
      generalize upd (upd (upd H7 l0 (.lst [.int 0])) MZ (.lst (msZ ++ [.ref l0]))) ln (.lst ((ks.map V.str).set 0 (.str "other"))) = H9
      intro A9
      clear hn8 A8 hMZ7 hn7 hD7 A7
      -- is it what it was made of
      refine ⟨_, rfl, _, rfl, x, o, p, W, ks, rfl, S, A9.net, A9.own, fun H10 s10 => ⟨true, rfl, iteF ?_⟩⟩
      have A10 := A9.same s10
      refine ⟨_, rfl, o, p, W, ks, rfl, S, A10.own, fun x2 H11 s11 n2 hN2 => ?_⟩
      have A11 := A10.same s11
      refine ⟨_, rfl, x2, o, p, W, ks, rfl, S, hN2, A11.own, fun H12 s12 => ⟨true, rfl, iteF ?_⟩⟩
      have A12 := A11.same s12
      -- == and != of its like
      have tt1 : decide (p = p ∧ W = W ∧ ks = ks) = true := decide_eq_true ⟨rfl, rfl, rfl⟩
      refine ⟨_, rfl, _, rfl, o, p, W, ks, rfl, S, A12.own, fun x3 H13 s13 n3 hN3 => ?_⟩
      have A13 := A12.same s13
      obtain ⟨dx13, w13, k13, hx13, _⟩ := id A13.net
      refine ⟨x, dx13, _, rfl, hx13, ⟨.ref C, T.ty hN3, nf_self⟩, x, .ref x3, p, W, ks, rfl, A13.net, S, .inl ⟨x3, p, W, ks, rfl, hN3, S, fun H14 s14 => ⟨_, rfl, ?_⟩⟩⟩
      have A14 := A13.same s14
      rw [tt1]
      refine ⟨true, true, rfl, rfl, _, rfl, iteF ?_⟩
      refine ⟨_, rfl, _, rfl, o, p, W, ks, rfl, S, A14.own, fun x4 H15 s15 n4 hN4 => ?_⟩
      have A15 := A14.same s15
      obtain ⟨dx15, w15, k15, hx15, _⟩ := id A15.net
      refine ⟨x, dx15, _, rfl, hx15, ⟨.ref C, T.ty hN4, nf_self⟩, x, .ref x4, p, W, ks, rfl, A15.net, S, .inl ⟨x4, p, W, ks, rfl, hN4, S, fun H16 s16 => ⟨_, rfl, ?_⟩⟩⟩
      have A16 := A15.same s16
      rw [tt1]
      refine ⟨false, false, rfl, rfl, _, rfl, iteF ?_⟩
      -- another
      refine ⟨_, rfl, _, rfl, hd, dr, o, p, W, ks, rfl, A16.hand, A16.own, S, fun o2 p2' Z js H17 S2 hO2 df hh17 b17 => ?_⟩
      have A17 := A16.but b17 hh17
      refine ⟨_, rfl, o2, p2', Z, js, rfl, S2, hO2, fun x5 H18 s18 n5 hN5 => ?_⟩
      have A18 := A17.same s18
      have hO2b := hO2.mono (Tk.of s18)
      refine ⟨_, rfl, _, rfl, x5, o2, p2', Z, js, rfl, S2, hN5, hO2b, fun H19 s19 => ⟨true, rfl, iteF ?_⟩⟩
      have A19 := A18.same s19
      have hN6' := hN5.mono (Tk.of s19) fun u e => s19 _ _ e
      have ff1 : decide (p = p2' ∧ W = Z ∧ ks = js) = false := decide_eq_false df
      obtain ⟨dx19, w19, k19, hx19, _⟩ := id A19.net
      refine ⟨_, rfl, _, rfl, x, dx19, _, rfl, hx19, ⟨.ref C, T.ty hN6', nf_self⟩, x, .ref x5, p, W, ks, rfl, A19.net, S, .inl ⟨x5, p2', Z, js, rfl, hN6', S2, fun H20 s20 => ⟨_, rfl, ?_⟩⟩⟩
      have A20 := A19.same s20
      have hN7 := hN6'.mono (Tk.of s20) fun u e => s20 _ _ e
      rw [ff1]
      refine ⟨false, false, rfl, rfl, _, rfl, iteF ?_⟩
      obtain ⟨dx20, w20, k20, hx20, _⟩ := id A20.net
      refine ⟨_, rfl, _, rfl, x, dx20, _, rfl, hx20, ⟨.ref C, T.ty hN7, nf_self⟩, x, .ref x5, p, W, ks, rfl, A20.net, S, .inl ⟨x5, p2', Z, js, rfl, hN7, S2, fun H21 s21 => ⟨_, rfl, ?_⟩⟩⟩
      have A21 := A20.same s21
      rw [ff1]
      refine ⟨true, true, rfl, rfl, _, rfl, iteF ?_⟩
      -- what is no net
      obtain ⟨dx21, w21, k21, hx21, _⟩ := id A21.net
      obtain ⟨w22, k22, ho22, _⟩ := id A21.own
      refine ⟨_, rfl, _, rfl, x, dx21, _, rfl, hx21, ⟨.type "tuple", .base (.tup ho22), nT⟩, x, .ref o, p, W, ks, rfl, A21.net, S, .inr ⟨.type "tuple", .base (.tup ho22), tT, ⟨false, rfl, false, false, rfl, rfl, _, rfl, iteF ?_⟩⟩⟩
      refine ⟨_, rfl, x, dx21, _, rfl, hx21, ⟨.type "NoneType", .base .non, nN⟩, x, .non, p, W, ks, rfl, A21.net, S, .inr ⟨.type "NoneType", .base .non, tN, ⟨false, rfl, false, false, rfl, rfl, _, rfl, iteF ?_⟩⟩⟩
      refine ⟨_, rfl, _, rfl, o, _, 0, .int p, rfl, rfl, tupK ho22, rfl, x, dx21, _, rfl, hx21, ⟨.type "int", .base (.int p), nI⟩, x, .int p, p, W, ks, rfl, A21.net, S, .inr ⟨.type "int", .base (.int p), tI, ⟨false, rfl, true, true, rfl, rfl, _, rfl, iteF ?_⟩⟩⟩
      -- no prime
      refine ⟨_, _, rfl, rfl, ⟨by decide, by decide, by decide⟩, 7, rfl, 2, rfl, _, rfl, hd, dr, rfl, A21.hand, fun v d H22 ov hdd hh22 b22 => ⟨(by show 16 ≤ sizeLine; decide), fun l nl' => ?_⟩⟩
      have A22 := A21.but b22 hh22
      have s23 := same_upd (o := .lst [V.int 0, .int 1, .int 4, .int 9, .int 91, .int 95, .int 98, .int 101, .int (10 ^ (20 : Int).toNat), .int (-7), .int (-2), .int 49, .int 77, .int 6, .bl true, v]) nl'
      have hl23 : (upd H22 l (.lst [V.int 0, .int 1, .int 4, .int 9, .int 91, .int 95, .int 98, .int 101, .int (10 ^ (20 : Int).toNat), .int (-7), .int (-2), .int 49, .int 77, .int 6, .bl true, v])) l = some (.lst [V.int 0, .int 1, .int 4, .int 9, .int 91, .int 95, .int 98, .int 101, .int (10 ^ (20 : Int).toNat), .int (-7), .int (-2), .int 49, .int 77, .int 6, .bl true, v]) := upd_same
      show gName 8 (V.ref l) _ (upd H22 l (.lst [V.int 0, .int 1, .int 4, .int 9, .int 91, .int 95, .int 98, .int 101, .int (10 ^ (20 : Int).toNat), .int (-7), .int (-2), .int 49, .int 77, .int 6, .bl true, v])) _
      revert s23 hl23
      generalize upd H22 l (.lst [V.int 0, .int 1, .int 4, .int 9, .int 91, .int 95, .int 98, .int 101, .int (10 ^ (20 : Int).toNat), .int (-7), .int (-2), .int 49, .int 77, .int 6, .bl true, v]) = H23
      intro s23 hl23
      have A23 := A22.same s23
      have prO : Paired (OddV H23) [V.int 0, .int 1, .int 4, .int 9, .int 91, .int 95, .int 98, .int 101, .int (10 ^ (20 : Int).toNat), .int (-7), .int (-2), .int 49, .int 77, .int 6, .bl true, v] (litD ++ [d]) := by
        refine .cons (.int 0) (.cons (.int 1) (.cons (.int 4) (.cons (.int 9) (.cons (.int 91) (.cons (.int 95) (.cons (.int 98) (.cons (.int 101) (.cons ?_ (.cons (.int (-7)) (.cons (.int (-2)) (.cons (.int 49) (.cons (.int 77) (.cons (.int 6) (.cons (.bl true) (.cons (ov.same s23) .nil)))))))))))))))
        rw [tw_eq]
        exact .int _
      refine ⟨_, rfl, _, rfl, hd, dr, 16, rfl, by decide, A23.hand, fun u H24 u0 u1 hh24 b24 => ?_⟩
      have A24 := A23.but b24 hh24
      obtain ⟨xv, dv, hdv, ovv, ea⟩ := at_pr prO u0 u1
      have hdv' : dv ∈ oddD := by
        rcases List.mem_append.mp hdv with z | z
        · exact lit_odd dv z
        · rw [List.mem_singleton.mp z]
          exact hdd
      obtain ⟨nlh', nld'⟩ := A22.hand.new nl'
      refine ⟨l, _, u, xv, rfl, rfl, lstK (b24 _ _ nlh' hl23), ea, _, rfl, xv, dv, o, p, W, ks, rfl, A23.hand.odd b24 ovv, hdv', A24.own, fun H25 s25 => ⟨true, rfl, iteT ?_⟩⟩
      have A25 := A24.same s25
      exact ⟨_, rfl, _, rfl, x, o, p, W, ks, rfl, S, A25.net, A25.own, fun H26 s26 => q H26⟩
end
end
end NL

set_option Elab.async false
set_option linter.all false
set_option maxRecDepth 100000
set_option maxHeartbeats 4000000
/-! From a promise that holds where no repr is under way to the law's walk. -/
namespace NW
open PySem PySem.Spec PyProof.Rows L2 ND NR NH
section
variable {P : Program} {w : World} {K : PySem.W.Frag} {mg mb : Str → Option Value}
/-- what is tracked at the start: the script, frozen, where the module does not hold it -/
def first (K : PySem.W.Frag) (a : Addr) (ob : Obj) (xs : List V) : Hp := fun b => if b = a ∧ K.lookup a = none then some (.frz ob (.lst xs)) else none
theorem first_at {a b : Addr} {ob : Obj} {xs : List V} {u : HO} (e : first K a ob xs b = some u) : b = a ∧ K.lookup a = none ∧ u = .frz ob (.lst xs) := by
  unfold first at e
  split at e
  · rename_i q
    exact ⟨q.1, q.2, (Option.some.inj e).symm⟩
  · cases e
theorem first_not {a b : Addr} {ob : Obj} {xs : List V} (h : ∀ u, first K a ob xs b ≠ some u) : first K a ob xs b = none := by
  cases q : first K a ob xs b with
  | none => rfl
  | some u => exact absurd q (h u)
/-- the law's call, from outside -/
theorem start {k : Nat} {fa a : Addr} {fd : FuncData} {x : Str} {sp : Sp} {s : Shared} {vs : List Value} {ns : List Int} (KX : K.In s.heap) (hns : s.heap.Ns mainGlobals mg) (hb : s.heap.Ns builtinsNs mb)
    (hbb : ∀ x : Str, x ≠ "__name__" → mb x = bootBuiltins x) (hlim : s.heap.NoLimit) (hg : s.gens = #[]) (ha : s.heap.get? a = some { cls := .type "list", data := .seq vs.toArray }) (hi : IntsAre vs ns) (hl : ns.length ≤ sizeLine) (hr : Room k callerA)
    (F : ∀ base : Heap, K.In base → base.Ns mainGlobals mg → GFn P w K mg base k fa fd [x] sp) (hbind : ∀ (s : Shared) (u : Value), BindsTo s fd ⟨[u], []⟩ [(x, u)])
    (hsp : ∀ H : Hp, SqL K H a (ns.map V.int) → sp [.ref a] H (fun v _ => v = .bl true) E0) :
    codeAny (model P w) callerA (.call (.ref fa) ⟨[.ref a], []⟩) (fun r s' => r = .ok (.ret (.bool true)) ∧ OldK s.heap s'.heap ∧ s'.os = s.os ∧ AllBare s'.gens) s := by
  have rv : Vals (ns.map V.int) vs := vals_ints hi
  have lv : (ns.map V.int).length = vs.length := rv.length
  have lz : (ns.map V.int).length ≤ sizeLine := by rw [List.length_map]; exact hl
  -- an object that is no list is not tracked
  have nots : ∀ {b : Addr} {o : Obj} {es : Array DictEntry} {ep : Nat}, s.heap.get? b = some o → o.data = .dict es ep → first K a { cls := .type "list", data := .seq vs.toArray } (ns.map V.int) b = none := fun {b o es ep} e d => first_not fun u z => by
    obtain ⟨rfl, _, _⟩ := first_at z
    rw [ha] at e
    rw [← Option.some.inj e] at d
    cases d
  have frame : ∀ {b : Addr} {m : Str → Option Value}, s.heap.Ns b m → (hidT s.heap (first K a { cls := .type "list", data := .seq vs.toArray } (ns.map V.int))).Ns b m := fun {b m} z => by
    obtain ⟨o, es, ep, e, d, r⟩ := z
    exact ⟨o, es, ep, hidT_get e (nots e d), d, r⟩
  have kin : K.In (hidT s.heap (first K a { cls := .type "list", data := .seq vs.toArray } (ns.map V.int))) := fun b o e => hidT_get (KX b o e) (first_not fun u z => by
    obtain ⟨rfl, n, _⟩ := first_at z
    rw [n] at e
    cases e)
  have hok : HOk P w (first K a { cls := .type "list", data := .seq vs.toArray } (ns.map V.int)) s.heap := fun b u z => by
    obtain ⟨rfl, _, rfl⟩ := first_at z
    exact ⟨ha, lz, vs, _, rv, ha⟩
  have scr : SqL K (first K a { cls := .type "list", data := .seq vs.toArray } (ns.map V.int)) a (ns.map V.int) := by
    cases hk : K.lookup a with
    | none => exact .inl (.inr ⟨_, if_pos ⟨rfl, hk⟩⟩)
    | some o =>
      have e := KX a o hk
      rw [ha] at e
      rw [← Option.some.inj e] at hk
      exact .inr ⟨_, vs.toArray, _, hk, rfl, rfl, rfl, by rw [List.size_toArray, ← lv]; exact lz, rv⟩
  obtain ⟨mc, c1, c2⟩ := hlim
  have env : Env0 P w K mg (hidT s.heap (first K a { cls := .type "list", data := .seq vs.toArray } (ns.map V.int))) callerA [] s (first K a { cls := .type "list", data := .seq vs.toArray } (ns.map V.int)) :=
    ⟨rfl, ⟨kin, frame hns, ⟨mb, frame hb, hbb⟩, ⟨mc, frame c1, c2⟩⟩, fun _ _ => of_hidT, by rw [hidT_size]; exact Nat.le_refl _, trivial, (fun _ z => nomatch z), hok, .of_eq hg⟩
  have go := (F _ kin (frame hns)).go (us := [.ref a]) (vs := [.ref a]) (show callerA.guards = some [] from rfl) hr env (hbind s (.ref a)) (.cons rfl .nil) (hsp _ scr)
  refine codeAny_mono go fun r s' z => ?_
  match r, z with
  | .ok (.ret u), z =>
    obtain ⟨v, H', os, bare, un, hok', ru, ev⟩ := z
    have ev' : v = .bl true := ev
    subst ev'
    cases (show u = Value.bool true from ru)
    refine ⟨rfl, OldK.of_keep fun b o e => ?_, os, bare⟩
    cases t : first K a { cls := .type "list", data := .seq vs.toArray } (ns.map V.int) b with
    | none => exact un.keep b o e t (fun z => nomatch z) (fun z => nomatch z)
    | some u =>
      obtain ⟨rfl, _, rfl⟩ := first_at t
      rw [ha] at e
      rw [← Option.some.inj e]
      exact (hok' _ _ (un.frzs _ _ _ t)).1
end
theorem walk {l : PySem.W.OpenLaw} {q : Program} {loose : List Str} {XP : (Str → Option Value) → Heap → Prop} {YP : World → Heap → Prop} {d : DefRec} {K : Params → PySem.W.Frag} (hn : l.most = some 63) (hdf : d.params.defaults = [])
    (hY : ∀ (w : World) (h : Heap), YP w h → (K w.params).In h)
    (F : ∀ (w : World) (mg : Str → Option Value) (fa : Addr) (h : Heap), (K w.params).In h → h.Ns mainGlobals mg → mg d.name = some (.ref fa) →
      ∃ fd : FuncData, (∀ (s : Shared) (u : Value), BindsTo s fd ⟨[u], []⟩ [("_law_script", u)]) ∧ ∀ base : Heap, (K w.params).In base → base.Ns mainGlobals mg → GFn l.prog w (K w.params) mg base 6 fa fd ["_law_script"] (spLaw (K w.params))) :
    PySem.W.WalkO q loose XP YP l.row.toRowW d [] (fun f vs => PySem.call f vs) :=
  Att.attach_callB hn hdf fun w s₀ s₁ mg mb fa o pm cd doc a vs ns G Y _ _ _ hmg hobj hints hlen _ hg => by
    have KX := hY w _ Y
    obtain ⟨fd, hb, hF⟩ := F w mg fa _ KX G.T.g hmg
    exact start KX G.T.g G.T.b G.T.builtins G.T.nolimit hg hobj hints (Nat.le_trans hlen (by decide)) ⟨rfl, by decide, by decide⟩ hF hb fun H hS => ⟨a, ns, rfl, hS, hlen, fun _ => rfl⟩
end NW

set_option Elab.async false
set_option linter.all false
set_option maxRecDepth 100000
set_option maxHeartbeats 8000000
/-! What the program's top has written, gathered. -/
namespace NM
open PySem PySem.Spec PyProof.Rows L2 ND NR NH NA NB NC ND2 NE NF NG NO NL NW
section
variable {K : PySem.W.Frag} {D : Addr} {t : Value} {b : Bool}
theorem kit_cl (h1 : PySem.W.isClsIn K D = true) (h2 : PySem.W.typeIn K (.ref D) = some (.type "type")) (h3 : PySem.W.subIn K t (.ref D) = some b) : PySem.W.kitCls K t (.ref D) = some b := by
  have c : ((PySem.W.clsIn K D).isSome && PySem.W.typeIn K (.ref D) == some (.type "type")) = true := by
    rw [h2, Bool.and_eq_true]
    exact ⟨h1, beq_self_eq_true _⟩
  exact (if_pos c).trans h3
theorem kit_no {T : String} (h1 : PySem.W.isClsIn K D = true) (h2 : PySem.W.typeIn K (.ref D) = some (.type "type")) (h3 : PySem.W.subIn K (.type T) (.ref D) = some b) : PySem.W.kitOne K (.type T) (.ref D) = some b := by
  have n : ¬ ((Value.type T == Value.ref D) = true) := fun e => by
    have e' := beq_iff_eq.mp e
    cases e'
  exact (if_neg n).trans (kit_cl h1 h2 h3)
theorem kit_yes (h1 : PySem.W.isClsIn K D = true) (h2 : PySem.W.typeIn K (.ref D) = some (.type "type")) (h3 : PySem.W.subIn K t (.ref D) = some true) : PySem.W.kitOne K t (.ref D) = some true := by
  unfold PySem.W.kitOne
  split
  · rfl
  · exact kit_cl h1 h2 h3
theorem exm_yes (h0 : PySem.W.subIn K (.ref D) (.type "BaseException") = some true) (h1 : PySem.W.isClsIn K D = true) (h2 : PySem.W.typeIn K (.ref D) = some (.type "type")) (h3 : PySem.W.subIn K (.ref D) (.ref D) = some true) :
    PySem.W.exmOne K (.ref D) (.ref D) = some true := by
  have c : (PySem.W.subIn K (.ref D) (.type "BaseException") == some true) = true := by
    rw [h0]
    exact beq_self_eq_true _
  exact (if_pos c).trans (kit_cl h1 h2 h3)
end
theorem all_mk {P : Program} {w : World} {K : PySem.W.Frag} {h : Heap} {mg : Str → Option Value} {fa C CX CS pw N : Addr} (X : K.In h) (G : h.Ns mainGlobals mg) (hfa : mg "law" = some (.ref fa))
    {tm : Tok} {rest : List Value} {nm q : Str} {bs bm : List Value} {sn : List Str} {sub : List Value} {ab : Bool} {col : Option Bool} {dd : Option Addr} {m0 m1 m2 m3 m5 : Option Value}
    {f_xi f_bt f_pr f_am f_ni f_wd f_ln f_eq f_dr f_ta f_od f_lp f_ve f_ne f_is f_rf f_ot f_li f_lw : Addr}
    {od_xi an_xi od_bt an_bt od_pr an_pr od_am an_am od_ni an_ni od_wd an_wd od_ln an_ln od_eq an_eq od_dr an_dr od_ta an_ta od_od an_od od_lp an_lp od_ve an_ve od_ne an_ne od_is an_is od_rf an_rf od_ot an_ot od_li an_li od_lw an_lw : Option Addr}
    {sl_xi sl_bt sl_pr sl_am sl_ni sl_wd sl_ln sl_eq sl_dr sl_ta sl_od sl_lp sl_ve sl_ne sl_is sl_rf sl_ot sl_li sl_lw : Array (Option Value)}
    {oc_xi kV_xi dc_xi pm_xi cd_xi ct_xi oc_bt kV_bt dc_bt pm_bt cd_bt ct_bt oc_pr kV_pr dc_pr pm_pr cd_pr ct_pr oc_am kV_am dc_am pm_am cd_am ct_am oc_ni kV_ni dc_ni pm_ni cd_ni ct_ni oc_wd kV_wd dc_wd pm_wd cd_wd ct_wd oc_ln kV_ln dc_ln pm_ln cd_ln ct_ln oc_eq kV_eq dc_eq pm_eq cd_eq ct_eq oc_dr kV_dr dc_dr pm_dr cd_dr ct_dr oc_ta kV_ta dc_ta pm_ta cd_ta ct_ta oc_od kV_od dc_od pm_od cd_od ct_od oc_lp kV_lp dc_lp pm_lp cd_lp ct_lp oc_ve kV_ve dc_ve pm_ve cd_ve ct_ve oc_ne kV_ne dc_ne pm_ne cd_ne ct_ne oc_is kV_is dc_is pm_is cd_is ct_is oc_rf kV_rf dc_rf pm_rf cd_rf ct_rf oc_ot kV_ot dc_ot pm_ot cd_ot ct_ot oc_li kV_li dc_li pm_li cd_li ct_li oc_lw kV_lw dc_lw pm_lw cd_lw ct_lw : Value}
    (aC : PySem.W.nsIn K mainGlobals "Net" = some (some (.ref C)))
    (aX : PySem.W.nsIn K mainGlobals "InvalidNumber" = some (some (.ref CX)))
    (aS : PySem.W.nsIn K mainGlobals "StageError" = some (some (.ref CS)))
    (aM : PySem.W.nsIn K mainGlobals "MOST_PRIME" = some (some (.int 97 tm)))
    (z_isinstance : PySem.W.nsIn K mainGlobals "isinstance" = some none)
    (z_int : PySem.W.nsIn K mainGlobals "int" = some none)
    (z_bool : PySem.W.nsIn K mainGlobals "bool" = some none)
    (z_range : PySem.W.nsIn K mainGlobals "range" = some none)
    (z_tuple : PySem.W.nsIn K mainGlobals "tuple" = some none)
    (z_list : PySem.W.nsIn K mainGlobals "list" = some none)
    (z_len : PySem.W.nsIn K mainGlobals "len" = some none)
    (z_abs : PySem.W.nsIn K mainGlobals "abs" = some none)
    (z_repr : PySem.W.nsIn K mainGlobals "repr" = some none)
    (z_min : PySem.W.nsIn K mainGlobals "min" = some none)
    (pg : PySem.W.plainGet K C Str.empty = true)
    (hd : PySem.W.hasDictIn K C = true)
    (po : PySem.W.plainOver K C = true)
    (sa : PySem.W.findIn K (.ref C) "__setattr__" = some (some (.builtin "object.__setattr__")))
    (mk : PySem.W.makesIn K C = true)
    (kc : PySem.W.keepIn K (.ref C) = true)
    (n_prime : PySem.W.findIn K (.ref C) "prime" = some none)
    (n_weights : PySem.W.findIn K (.ref C) "weights" = some none)
    (n_kinds : PySem.W.findIn K (.ref C) "kinds" = some none)
    (ha : PySem.W.findIn K (.ref C) "__class__" = some (some (.builtin "object.__class__")))
    (hn : PySem.W.specialIn K (.builtin "object.__class__") "__get__" = some (some (.builtin "getset_descriptor.__get__")))
    (ht : PySem.W.takesIn K (.builtin "object.__class__") = some true)
    (hm : PySem.W.mroIn K C (.type "object") = some true)
    (eN : PySem.W.findIn K (.ref C) "__ne__" = some (some (.builtin "object.__ne__")))
    (sO : PySem.W.subIn K (.ref C) (.type "object") = some true)
    (nf_tuple : PySem.W.notFirst K C (.type "tuple") = true)
    (su_tuple : PySem.W.subIn K (.type "tuple") (.ref C) = some false)
    (nf_NoneType : PySem.W.notFirst K C (.type "NoneType") = true)
    (su_NoneType : PySem.W.subIn K (.type "NoneType") (.ref C) = some false)
    (nf_int : PySem.W.notFirst K C (.type "int") = true)
    (su_int : PySem.W.subIn K (.type "int") (.ref C) = some false)
    (icC : PySem.W.isClsIn K C = true)
    (tyC : PySem.W.typeIn K (.ref C) = some (.type "type"))
    (xL : K.lookup CX = some (excClassObj nm q CX N bs bm true sn sub ab col dd m0 m1 m2 m3 m5 "ValueError.__new__"))
    (xR : PySem.HandSPX.refsVE bm = true)
    (saX : PySem.W.findIn K (.ref CX) "__setattr__" = some (some (.builtin "object.__setattr__")))
    (gaX : PySem.W.findIn K (.ref CX) "__getattribute__" = some (some (.builtin "BaseException.__getattribute__")))
    (ggX : PySem.W.findIn K (.ref CX) "__getattr__" = some none)
    (nnX : PySem.W.findIn K (.ref CX) "number" = some none)
    (kX : PySem.W.keepIn K (.ref CX) = true)
    (eX : PySem.W.subIn K (.ref CX) (.type "BaseException") = some true)
    (tX : PySem.W.typeIn K (.ref CX) = some (.type "type"))
    (hX : PySem.W.hasDictIn K CX = true)
    (haX : PySem.W.findIn K (.ref CX) "__class__" = some (some (.builtin "object.__class__")))
    (hmX : PySem.W.mroIn K CX (.type "object") = some true)
    (icX : PySem.W.isClsIn K CX = true)
    (icS : PySem.W.isClsIn K CS = true)
    (tyS : PySem.W.typeIn K (.ref CS) = some (.type "type"))
    (sXX : PySem.W.subIn K (.ref CX) (.ref CX) = some true)
    (sXS : PySem.W.subIn K (.ref CX) (.ref CS) = some true)
    (a_xi : PySem.W.findIn K (.ref CX) "__init__" = some (some (.ref f_xi)))
    (t_xi : PySem.W.typeIn K (.ref f_xi) = some (.type "function"))
    (l_xi : K.lookup f_xi = some ⟨oc_xi, od_xi, .func (PySem.W.fnOf "__init__" "InvalidNumber.__init__" (defArgs sXInit) (defBody sXInit) (defScope sXInit) .none kV_xi dc_xi pm_xi an_xi cd_xi ct_xi), sl_xi⟩)
    (c_xi : PySem.W.codeIn K cd_xi "InvalidNumber.__init__" = true)
    (k_xi : PySem.W.keepIn K (.ref f_xi) = true)
    (a_bt : PySem.W.nsIn K mainGlobals "is_between" = some (some (.ref f_bt)))
    (l_bt : K.lookup f_bt = some ⟨oc_bt, od_bt, .func (PySem.W.fnOf "is_between" "is_between" (defArgs sBetween) (defBody sBetween) (defScope sBetween) .none kV_bt dc_bt pm_bt an_bt cd_bt ct_bt), sl_bt⟩)
    (c_bt : PySem.W.codeIn K cd_bt "is_between" = true)
    (k_bt : PySem.W.keepIn K (.ref f_bt) = true)
    (a_pr : PySem.W.nsIn K mainGlobals "is_prime" = some (some (.ref f_pr)))
    (l_pr : K.lookup f_pr = some ⟨oc_pr, od_pr, .func (PySem.W.fnOf "is_prime" "is_prime" (defArgs sPrime) (defBody sPrime) (defScope sPrime) .none kV_pr dc_pr pm_pr an_pr cd_pr ct_pr), sl_pr⟩)
    (c_pr : PySem.W.codeIn K cd_pr "is_prime" = true)
    (k_pr : PySem.W.keepIn K (.ref f_pr) = true)
    (a_am : PySem.W.nsIn K mainGlobals "as_matrix" = some (some (.ref f_am)))
    (l_am : K.lookup f_am = some ⟨oc_am, od_am, .func (PySem.W.fnOf "as_matrix" "as_matrix" (defArgs sAsM) (defBody sAsM) (defScope sAsM) .none kV_am dc_am pm_am an_am cd_am ct_am), sl_am⟩)
    (c_am : PySem.W.codeIn K cd_am "as_matrix" = true)
    (k_am : PySem.W.keepIn K (.ref f_am) = true)
    (a_ni : PySem.W.findIn K (.ref C) "__init__" = some (some (.ref f_ni)))
    (i_ni : PySem.W.isFn K (.ref f_ni) = true)
    (l_ni : K.lookup f_ni = some ⟨oc_ni, od_ni, .func (PySem.W.fnOf "__init__" "Net.__init__" (defArgs sNInit) (defBody sNInit) (defScope sNInit) .none kV_ni dc_ni pm_ni an_ni cd_ni ct_ni), sl_ni⟩)
    (c_ni : PySem.W.codeIn K cd_ni "Net.__init__" = true)
    (k_ni : PySem.W.keepIn K (.ref f_ni) = true)
    (a_wd : PySem.W.findIn K (.ref C) "width" = some (some (.ref pw)))
    (pget : PySem.W.specialIn K (.ref pw) "__get__" = some (some (.builtin "property.__get__")))
    (ptak : PySem.W.takesIn K (.ref pw) = some true)
    (prec : PySem.W.recIn K pw "property" = some (.ref f_wd :: rest))
    (l_wd : K.lookup f_wd = some ⟨oc_wd, od_wd, .func (PySem.W.fnOf "width" "Net.width" (defArgs sWidth) (defBody sWidth) (defScope sWidth) .none kV_wd dc_wd pm_wd an_wd cd_wd ct_wd), sl_wd⟩)
    (c_wd : PySem.W.codeIn K cd_wd "Net.width" = true)
    (k_wd : PySem.W.keepIn K (.ref f_wd) = true)
    (a_ln : PySem.W.findIn K (.ref C) "__len__" = some (some (.ref f_ln)))
    (i_ln : PySem.W.isFn K (.ref f_ln) = true)
    (l_ln : K.lookup f_ln = some ⟨oc_ln, od_ln, .func (PySem.W.fnOf "__len__" "Net.__len__" (defArgs sLen) (defBody sLen) (defScope sLen) .none kV_ln dc_ln pm_ln an_ln cd_ln ct_ln), sl_ln⟩)
    (c_ln : PySem.W.codeIn K cd_ln "Net.__len__" = true)
    (k_ln : PySem.W.keepIn K (.ref f_ln) = true)
    (a_eq : PySem.W.findIn K (.ref C) "__eq__" = some (some (.ref f_eq)))
    (i_eq : PySem.W.isFn K (.ref f_eq) = true)
    (l_eq : K.lookup f_eq = some ⟨oc_eq, od_eq, .func (PySem.W.fnOf "__eq__" "Net.__eq__" (defArgs sEq) (defBody sEq) (defScope sEq) .none kV_eq dc_eq pm_eq an_eq cd_eq ct_eq), sl_eq⟩)
    (c_eq : PySem.W.codeIn K cd_eq "Net.__eq__" = true)
    (k_eq : PySem.W.keepIn K (.ref f_eq) = true)
    (a_dr : PySem.W.nsIn K mainGlobals "_law_draws" = some (some (.ref f_dr)))
    (l_dr : K.lookup f_dr = some ⟨oc_dr, od_dr, .func (PySem.W.fnOf "_law_draws" "_law_draws" (defArgs sDraws) (defBody sDraws) (defScope sDraws) .none kV_dr dc_dr pm_dr an_dr cd_dr ct_dr), sl_dr⟩)
    (c_dr : PySem.W.codeIn K cd_dr "_law_draws" = true)
    (k_dr : PySem.W.keepIn K (.ref f_dr) = true)
    (a_ta : PySem.W.nsIn K mainGlobals "_law_take" = some (some (.ref f_ta)))
    (l_ta : K.lookup f_ta = some ⟨oc_ta, od_ta, .func (PySem.W.fnOf "_law_take" "_law_take" (defArgs sTake) (defBody sTake) (defScope sTake) .none kV_ta dc_ta pm_ta an_ta cd_ta ct_ta), sl_ta⟩)
    (c_ta : PySem.W.codeIn K cd_ta "_law_take" = true)
    (k_ta : PySem.W.keepIn K (.ref f_ta) = true)
    (a_od : PySem.W.nsIn K mainGlobals "_law_odd" = some (some (.ref f_od)))
    (l_od : K.lookup f_od = some ⟨oc_od, od_od, .func (PySem.W.fnOf "_law_odd" "_law_odd" (defArgs sOdd) (defBody sOdd) (defScope sOdd) .none kV_od dc_od pm_od an_od cd_od ct_od), sl_od⟩)
    (c_od : PySem.W.codeIn K cd_od "_law_odd" = true)
    (k_od : PySem.W.keepIn K (.ref f_od) = true)
    (a_lp : PySem.W.nsIn K mainGlobals "_law_prime" = some (some (.ref f_lp)))
    (l_lp : K.lookup f_lp = some ⟨oc_lp, od_lp, .func (PySem.W.fnOf "_law_prime" "_law_prime" (defArgs sLPrime) (defBody sLPrime) (defScope sLPrime) .none kV_lp dc_lp pm_lp an_lp cd_lp ct_lp), sl_lp⟩)
    (c_lp : PySem.W.codeIn K cd_lp "_law_prime" = true)
    (k_lp : PySem.W.keepIn K (.ref f_lp) = true)
    (a_ve : PySem.W.nsIn K mainGlobals "_law_vector" = some (some (.ref f_ve)))
    (l_ve : K.lookup f_ve = some ⟨oc_ve, od_ve, .func (PySem.W.fnOf "_law_vector" "_law_vector" (defArgs sVec) (defBody sVec) (defScope sVec) .none kV_ve dc_ve pm_ve an_ve cd_ve ct_ve), sl_ve⟩)
    (c_ve : PySem.W.codeIn K cd_ve "_law_vector" = true)
    (k_ve : PySem.W.keepIn K (.ref f_ve) = true)
    (a_ne : PySem.W.nsIn K mainGlobals "_law_net" = some (some (.ref f_ne)))
    (l_ne : K.lookup f_ne = some ⟨oc_ne, od_ne, .func (PySem.W.fnOf "_law_net" "_law_net" (defArgs sNet) (defBody sNet) (defScope sNet) .none kV_ne dc_ne pm_ne an_ne cd_ne ct_ne), sl_ne⟩)
    (c_ne : PySem.W.codeIn K cd_ne "_law_net" = true)
    (k_ne : PySem.W.keepIn K (.ref f_ne) = true)
    (a_is : PySem.W.nsIn K mainGlobals "_law_is" = some (some (.ref f_is)))
    (l_is : K.lookup f_is = some ⟨oc_is, od_is, .func (PySem.W.fnOf "_law_is" "_law_is" (defArgs sIs) (defBody sIs) (defScope sIs) .none kV_is dc_is pm_is an_is cd_is ct_is), sl_is⟩)
    (c_is : PySem.W.codeIn K cd_is "_law_is" = true)
    (k_is : PySem.W.keepIn K (.ref f_is) = true)
    (a_rf : PySem.W.nsIn K mainGlobals "_law_refused" = some (some (.ref f_rf)))
    (l_rf : K.lookup f_rf = some ⟨oc_rf, od_rf, .func (PySem.W.fnOf "_law_refused" "_law_refused" (defArgs sRef) (defBody sRef) (defScope sRef) .none kV_rf dc_rf pm_rf an_rf cd_rf ct_rf), sl_rf⟩)
    (c_rf : PySem.W.codeIn K cd_rf "_law_refused" = true)
    (k_rf : PySem.W.keepIn K (.ref f_rf) = true)
    (a_ot : PySem.W.nsIn K mainGlobals "_law_other" = some (some (.ref f_ot)))
    (l_ot : K.lookup f_ot = some ⟨oc_ot, od_ot, .func (PySem.W.fnOf "_law_other" "_law_other" (defArgs sOther) (defBody sOther) (defScope sOther) .none kV_ot dc_ot pm_ot an_ot cd_ot ct_ot), sl_ot⟩)
    (c_ot : PySem.W.codeIn K cd_ot "_law_other" = true)
    (k_ot : PySem.W.keepIn K (.ref f_ot) = true)
    (a_li : PySem.W.nsIn K mainGlobals "_law_like" = some (some (.ref f_li)))
    (l_li : K.lookup f_li = some ⟨oc_li, od_li, .func (PySem.W.fnOf "_law_like" "_law_like" (defArgs sLike) (defBody sLike) (defScope sLike) .none kV_li dc_li pm_li an_li cd_li ct_li), sl_li⟩)
    (c_li : PySem.W.codeIn K cd_li "_law_like" = true)
    (k_li : PySem.W.keepIn K (.ref f_li) = true)
    (a_lw : PySem.W.nsIn K mainGlobals "law" = some (some (.ref f_lw)))
    (l_lw : K.lookup f_lw = some ⟨oc_lw, od_lw, .func (PySem.W.fnOf "law" "law" (defArgs sLaw) (defBody sLaw) (defScope sLaw) .none kV_lw dc_lw pm_lw an_lw cd_lw ct_lw), sl_lw⟩)
    (c_lw : PySem.W.codeIn K cd_lw "law" = true)
    (k_lw : PySem.W.keepIn K (.ref f_lw) = true)
    : ∃ fd : FuncData, (∀ (s : Shared) (v : Value), BindsTo s fd ⟨[v], []⟩ [("_law_script", v)]) ∧ ∀ base : Heap, K.In base → base.Ns mainGlobals mg → GFn P w K mg base 6 fa fd ["_law_script"] (spLaw K) := by
  have e := hfa.symm.trans (PySem.W.mg_of X G a_lw)
  cases e
  have T : Nt K mg C := ⟨⟨pg, hd, po, sa⟩, n_prime, n_weights, n_kinds, PySem.W.mg_of X G aC, ha, hn, ht, hm⟩
  have B : Bl mg := ⟨PySem.W.mg_none_of X G z_isinstance, PySem.W.mg_none_of X G z_int, PySem.W.mg_none_of X G z_bool, PySem.W.mg_none_of X G z_range, PySem.W.mg_none_of X G z_tuple, PySem.W.mg_none_of X G z_list, PySem.W.mg_none_of X G z_len, PySem.W.mg_none_of X G z_abs, PySem.W.mg_none_of X G z_repr, PySem.W.mg_none_of X G z_min, ⟨_, PySem.W.mg_of X G aM⟩⟩
  have TX : OexC K CX := ⟨⟨nm, q, N, bs, bm, sn, sub, ab, col, dd, m0, m1, m2, m3, m5, xL, xR⟩, saX, eX, tX, kX⟩
  have XF : XfC K CX := ⟨gaX, ggX, eX, hX⟩
  have TE : ExcC K CX := ⟨gaX, ggX, eX, hX, haX, hn, ht, hmX⟩
  have PWd : PropOf K C "width" pw f_wd := ⟨a_wd, pget, ptak, ⟨rest, prec⟩⟩
  have M : Mk K C f_ni := ⟨mk, a_ni, i_ni, kc⟩
  have F_xi := fun_mk (st := sXInit) l_xi c_xi k_xi
  have b_xi := F_xi.binds (ps := ["self", "number"]) fun _ _ _ _ _ _ us hl => match us, hl with | [_, _], _ => rfl
  have F_bt := fun_mk (st := sBetween) l_bt c_bt k_bt
  have b_bt := F_bt.binds (ps := ["value", "least", "most"]) fun _ _ _ _ _ _ us hl => match us, hl with | [_, _, _], _ => rfl
  have m_bt := PySem.W.mg_of X G a_bt
  have F_pr := fun_mk (st := sPrime) l_pr c_pr k_pr
  have b_pr := F_pr.binds (ps := ["value"]) fun _ _ _ _ _ _ us hl => match us, hl with | [_], _ => rfl
  have m_pr := PySem.W.mg_of X G a_pr
  have F_am := fun_mk (st := sAsM) l_am c_am k_am
  have b_am := F_am.binds (ps := ["rows"]) fun _ _ _ _ _ _ us hl => match us, hl with | [_], _ => rfl
  have m_am := PySem.W.mg_of X G a_am
  have F_ni := fun_mk (st := sNInit) l_ni c_ni k_ni
  have b_ni := F_ni.binds (ps := ["self", "prime", "weights", "kinds"]) fun _ _ _ _ _ _ us hl => match us, hl with | [_, _, _, _], _ => rfl
  have F_wd := fun_mk (st := sWidth) l_wd c_wd k_wd
  have b_wd := F_wd.binds (ps := ["self"]) fun _ _ _ _ _ _ us hl => match us, hl with | [_], _ => rfl
  have F_ln := fun_mk (st := sLen) l_ln c_ln k_ln
  have b_ln := F_ln.binds (ps := ["self"]) fun _ _ _ _ _ _ us hl => match us, hl with | [_], _ => rfl
  have F_eq := fun_mk (st := sEq) l_eq c_eq k_eq
  have b_eq := F_eq.binds (ps := ["self", "other"]) fun _ _ _ _ _ _ us hl => match us, hl with | [_, _], _ => rfl
  have F_dr := fun_mk (st := sDraws) l_dr c_dr k_dr
  have b_dr := F_dr.binds (ps := ["_law_script", "_law_many"]) fun _ _ _ _ _ _ us hl => match us, hl with | [_, _], _ => rfl
  have m_dr := PySem.W.mg_of X G a_dr
  have F_ta := fun_mk (st := sTake) l_ta c_ta k_ta
  have b_ta := F_ta.binds (ps := ["_law_hand", "_law_many"]) fun _ _ _ _ _ _ us hl => match us, hl with | [_, _], _ => rfl
  have m_ta := PySem.W.mg_of X G a_ta
  have F_od := fun_mk (st := sOdd) l_od c_od k_od
  have b_od := F_od.binds (ps := ["_law_hand"]) fun _ _ _ _ _ _ us hl => match us, hl with | [_], _ => rfl
  have m_od := PySem.W.mg_of X G a_od
  have F_lp := fun_mk (st := sLPrime) l_lp c_lp k_lp
  have b_lp := F_lp.binds (ps := ["_law_hand"]) fun _ _ _ _ _ _ us hl => match us, hl with | [_], _ => rfl
  have m_lp := PySem.W.mg_of X G a_lp
  have F_ve := fun_mk (st := sVec) l_ve c_ve k_ve
  have b_ve := F_ve.binds (ps := ["_law_hand", "_law_prime_here", "_law_width"]) fun _ _ _ _ _ _ us hl => match us, hl with | [_, _, _], _ => rfl
  have m_ve := PySem.W.mg_of X G a_ve
  have F_ne := fun_mk (st := sNet) l_ne c_ne k_ne
  have b_ne := F_ne.binds (ps := ["_law_hand", "_law_most"]) fun _ _ _ _ _ _ us hl => match us, hl with | [_, _], _ => rfl
  have m_ne := PySem.W.mg_of X G a_ne
  have F_is := fun_mk (st := sIs) l_is c_is k_is
  have b_is := F_is.binds (ps := ["_law_net_here", "_law_own"]) fun _ _ _ _ _ _ us hl => match us, hl with | [_, _], _ => rfl
  have m_is := PySem.W.mg_of X G a_is
  have F_rf := fun_mk (st := sRef) l_rf c_rf k_rf
  have b_rf := F_rf.binds (ps := ["_law_value", "_law_own"]) fun _ _ _ _ _ _ us hl => match us, hl with | [_, _], _ => rfl
  have m_rf := PySem.W.mg_of X G a_rf
  have F_ot := fun_mk (st := sOther) l_ot c_ot k_ot
  have b_ot := F_ot.binds (ps := ["_law_hand", "_law_own"]) fun _ _ _ _ _ _ us hl => match us, hl with | [_, _], _ => rfl
  have m_ot := PySem.W.mg_of X G a_ot
  have F_li := fun_mk (st := sLike) l_li c_li k_li
  have b_li := F_li.binds (ps := ["_law_own"]) fun _ _ _ _ _ _ us hl => match us, hl with | [_], _ => rfl
  have m_li := PySem.W.mg_of X G a_li
  have F_lw := fun_mk (st := sLaw) l_lw c_lw k_lw
  have kb : KBn K (PySem.W.fnOf "__init__" "Net.__init__" (defArgs sNInit) (defBody sNInit) (defScope sNInit) .none kV_ni dc_ni pm_ni an_ni cd_ni ct_ni) ["self", "prime", "weights", "kinds"] 1 ["prime", "weights", "kinds"] (fun us ws => us ++ ws) (fun vs zs => vs ++ zs) :=
    ⟨fun s us ws _ l1 l2 => match us, l1, ws, l2 with | [_], _, [_, _, _], _ => .of_eq rfl, fun r1 r2 => r1.append r2⟩
  refine ⟨PySem.W.fnOf "law" "law" (defArgs sLaw) (defBody sLaw) (defScope sLaw) .none kV_lw dc_lw pm_lw an_lw cd_lw ct_lw, fun s v => .of_eq rfl, fun base _ _ => ?_⟩
  have g_bt := ok_between (P := P) (w := w) (base := base) F_bt B
  have g_pr := ok_prime F_pr B g_bt b_bt m_bt k_bt
  have g_am := ok_asM (P := P) (w := w) (base := base) F_am B
  have g_xi := ok_xinit (P := P) (w := w) (base := base) (mg := mg) F_xi TX nnX
  have g_wd := ok_width (P := P) (w := w) (base := base) F_wd B T
  have g_ln := ok_len (P := P) (w := w) (base := base) F_ln B T
  have g_eq := ok_eq (P := P) (w := w) (base := base) F_eq B T
  have g_ni := ok_ninit F_ni B T g_pr b_pr m_pr k_pr g_am b_am m_am k_am g_xi b_xi (PySem.W.mg_of X G aX) TX a_xi t_xi
  have g_dr := ok_draws (P := P) (w := w) (base := base) F_dr B
  have g_ta := ok_take (P := P) (w := w) (base := base) F_ta B
  have g_od := ok_odd g_ta b_ta m_ta k_ta F_od
  have g_lp := ok_lprime g_ta b_ta m_ta k_ta F_lp
  have g_ve := ok_vec g_ta b_ta m_ta k_ta F_ve B
  have g_ne := ok_net g_ta b_ta m_ta k_ta g_lp b_lp m_lp k_lp g_ve b_ve m_ve k_ve F_ne B
  have g_is := ok_is F_is B T g_ln b_ln a_ln i_ln g_wd b_wd PWd
  have g_rf := ok_ref F_rf B T M g_ni b_ni (PySem.W.mg_of X G aX) (PySem.W.mg_of X G aS) XF nnX TE (exm_yes eX icX tX sXX) (kit_yes icS tyS sXS)
  have g_ot := ok_other g_ta b_ta m_ta k_ta F_ot B
  have g_li := ok_like F_li T M g_ni b_ni
  exact ok_law F_lw B T M g_ta b_ta m_ta k_ta g_dr b_dr m_dr k_dr g_ne b_ne m_ne k_ne g_ni kb g_is b_is m_is k_is g_rf b_rf m_rf k_rf g_ot b_ot m_ot k_ot g_li b_li m_li k_li g_od b_od m_od k_od g_eq b_eq a_eq eN i_eq sO nf_tuple nf_NoneType nf_int (kit_no icC tyC su_tuple) (kit_no icC tyC su_NoneType) (kit_no icC tyC su_int)
end NM

set_option Elab.async false
set_option maxRecDepth 100000
open PySem PySem.W PyProof.Rows
set_option maxRecDepth 100000 in
set_option maxHeartbeats 0 in
theorem PySem.Challenge.cw_stagesfull_k02_nets_holds : PySem.Challenge.rw_stagesfull_k02_nets.Holds := by
  w_on; o_law; k_head; (case hw => w_witness2)
  k_fill
  refine NW.walk (l := PySem.Challenge.rw_stagesfull_k02_nets) rfl rfl (fun w h Y => PySem.W.kIn_of Y) ?F
  case F =>
    intro w mg fa h KX G hmg
    refine' NM.all_mk KX G hmg ?aC ?aX ?aS ?aM ?z_isinstance ?z_int ?z_bool ?z_range ?z_tuple ?z_list ?z_len ?z_abs ?z_repr ?z_min ?pg ?hd ?po ?sa ?mk ?kc ?n_prime ?n_weights ?n_kinds ?ha ?hn ?ht ?hm ?eN ?sO ?nf_tuple ?su_tuple ?nf_NoneType ?su_NoneType ?nf_int ?su_int ?icC ?tyC ?xL ?xR ?saX ?gaX ?ggX ?nnX ?kX ?eX ?tX ?hX ?haX ?hmX ?icX ?icS ?tyS ?sXX ?sXS ?a_xi ?t_xi ?l_xi ?c_xi ?k_xi ?a_bt ?l_bt ?c_bt ?k_bt ?a_pr ?l_pr ?c_pr ?k_pr ?a_am ?l_am ?c_am ?k_am ?a_ni ?i_ni ?l_ni ?c_ni ?k_ni ?a_wd ?pget ?ptak ?prec ?l_wd ?c_wd ?k_wd ?a_ln ?i_ln ?l_ln ?c_ln ?k_ln ?a_eq ?i_eq ?l_eq ?c_eq ?k_eq ?a_dr ?l_dr ?c_dr ?k_dr ?a_ta ?l_ta ?c_ta ?k_ta ?a_od ?l_od ?c_od ?k_od ?a_lp ?l_lp ?c_lp ?k_lp ?a_ve ?l_ve ?c_ve ?k_ve ?a_ne ?l_ne ?c_ne ?k_ne ?a_is ?l_is ?c_is ?k_is ?a_rf ?l_rf ?c_rf ?k_rf ?a_ot ?l_ot ?c_ot ?k_ot ?a_li ?l_li ?c_li ?k_li ?a_lw ?l_lw ?c_lw ?k_lw
    (case aC => k_is)
    (case aX => k_is)
    (case aS => k_is)
    (case aM => k_is)
    (case z_isinstance => k_is)
    (case z_int => k_is)
    (case z_bool => k_is)
    (case z_range => k_is)
    (case z_tuple => k_is)
    (case z_list => k_is)
    (case z_len => k_is)
    (case z_abs => k_is)
    (case z_repr => k_is)
    (case z_min => k_is)
    (case pg => k_is)
    (case hd => k_is)
    (case po => k_is)
    (case sa => k_is)
    (case mk => k_is)
    (case kc => k_is)
    (case n_prime => k_is)
    (case n_weights => k_is)
    (case n_kinds => k_is)
    (case ha => k_is)
    (case hn => k_is)
    (case ht => k_is)
    (case hm => k_is)
    (case eN => k_is)
    (case sO => k_is)
    (case nf_tuple => k_is)
    (case su_tuple => k_is)
    (case nf_NoneType => k_is)
    (case su_NoneType => k_is)
    (case nf_int => k_is)
    (case su_int => k_is)
    (case icC => k_is)
    (case tyC => k_is)
    (case xL => k_is)
    (case xR => first | rfl | decide +kernel)
    (case saX => k_is)
    (case gaX => k_is)
    (case ggX => k_is)
    (case nnX => k_is)
    (case kX => k_is)
    (case eX => k_is)
    (case tX => k_is)
    (case hX => k_is)
    (case haX => k_is)
    (case hmX => k_is)
    (case icX => k_is)
    (case icS => k_is)
    (case tyS => k_is)
    (case sXX => k_is)
    (case sXS => k_is)
    (case a_xi => k_is)
    (case t_xi => k_is)
    (case l_xi => k_is)
    (case c_xi => k_is)
    (case k_xi => k_is)
    (case a_bt => k_is)
    (case l_bt => k_is)
    (case c_bt => k_is)
    (case k_bt => k_is)
    (case a_pr => k_is)
    (case l_pr => k_is)
    (case c_pr => k_is)
    (case k_pr => k_is)
    (case a_am => k_is)
    (case l_am => k_is)
    (case c_am => k_is)
    (case k_am => k_is)
    (case a_ni => k_is)
    (case i_ni => k_is)
    (case l_ni => k_is)
    (case c_ni => k_is)
    (case k_ni => k_is)
    (case a_wd => k_is)
    (case pget => k_is)
    (case ptak => k_is)
    (case prec => k_is)
    (case l_wd => k_is)
    (case c_wd => k_is)
    (case k_wd => k_is)
    (case a_ln => k_is)
    (case i_ln => k_is)
    (case l_ln => k_is)
    (case c_ln => k_is)
    (case k_ln => k_is)
    (case a_eq => k_is)
    (case i_eq => k_is)
    (case l_eq => k_is)
    (case c_eq => k_is)
    (case k_eq => k_is)
    (case a_dr => k_is)
    (case l_dr => k_is)
    (case c_dr => k_is)
    (case k_dr => k_is)
    (case a_ta => k_is)
    (case l_ta => k_is)
    (case c_ta => k_is)
    (case k_ta => k_is)
    (case a_od => k_is)
    (case l_od => k_is)
    (case c_od => k_is)
    (case k_od => k_is)
    (case a_lp => k_is)
    (case l_lp => k_is)
    (case c_lp => k_is)
    (case k_lp => k_is)
    (case a_ve => k_is)
    (case l_ve => k_is)
    (case c_ve => k_is)
    (case k_ve => k_is)
    (case a_ne => k_is)
    (case l_ne => k_is)
    (case c_ne => k_is)
    (case k_ne => k_is)
    (case a_is => k_is)
    (case l_is => k_is)
    (case c_is => k_is)
    (case k_is => k_is)
    (case a_rf => k_is)
    (case l_rf => k_is)
    (case c_rf => k_is)
    (case k_rf => k_is)
    (case a_ot => k_is)
    (case l_ot => k_is)
    (case c_ot => k_is)
    (case k_ot => k_is)
    (case a_li => k_is)
    (case l_li => k_is)
    (case c_li => k_is)
    (case k_li => k_is)
    (case a_lw => k_is)
    (case l_lw => k_is)
    (case c_lw => k_is)
    (case k_lw => k_is)
#print axioms PySem.Challenge.cw_stagesfull_k02_nets_holds
