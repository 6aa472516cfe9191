import PyProof.Rows.All
import Wide.All
import OpenK.AllK
import Wide.FinOn
import HandS.ForMost
import HandS.ForExc
import HandS.WideBits
import HandS.Wide
import HandS.IsInst
import HandS.Property
import HandS.FStr
import HandS.OwnEq
import HandS.MakeKw
import HandS.MakeKwOnly
import HandS.Defaults
import HandS.Flow
import HandS.Codes
import HandS.RaiseMore
import HandS.Deep
import HandS.NoneIn
import HandS.TupAny
import HandS.TupMul
import HandS.Style
import PySem.Challenge.RW_pressworlds_k33_whole_slides_alike_roots
set_option Elab.async false
set_option linter.all false
set_option maxRecDepth 100000
set_option maxHeartbeats 4000000
/-! Own rules over the hand layer: repr of data, str and == of own instances, calls by keywords alone -/
namespace Own
open PySem PySem.Spec PyProof.Rows L2

/-! ### repr of data at any depth -/
def rRepr (K : PySem.W.Frag) : List V → Hp → VK → Prop := fun xs H Q =>
  ∃ x d, xs = [x] ∧ Dp K H x d ∧ d.showable = true ∧ d.hasDict = false ∧ d.depth ≤ 60 ∧
    d.shown.length ≤ sizeLine ∧ (∃ a, x = .ref a) ∧ Q (.str d.shown) H
theorem call_reprD {X : Cx} (hg : X.A.guards = some []) (hu : X.A.units + 64 < cLine) :
    CallR X (.builtin "repr") (rRepr X.K) := by
  intro pins s σ H xs us Q I r h
  obtain ⟨x, d, rfl, hd, hs, hn, hp, hl, ⟨a, rfl⟩, q⟩ := h
  obtain ⟨u, rfl, r1⟩ := vals1 r
  have e : u = Value.ref a := r1
  subst e
  obtain ⟨as, rd⟩ := Dp.reads I d _ _ hd r1
  exact repr_of_reads' rd hs (PyData.noDict_hsm hn) hg (by omega) (fun _ _ e => e)
    (fun h' u tk hk => ⟨.str _, H, I.kept hk, ⟨_, rfl⟩, q⟩) hl

/-! ### str(o), o an own instance with its own text -/
section
variable {X : Cx} {CX : CXT} {n : Nat} {C g : Addr} {fd : FuncData} {ps : List Str} {sp : Sp} {E : XK}
def rStrOwn (C : Addr) (sp : Sp) (E : XK) : List V → Hp → VK → Prop := fun xs H Q =>
  ∃ a dx fs, xs = [.ref a] ∧ H a = some (.ins C dx fs) ∧ sp [.ref a] H (fun v H' => (∃ z, v = .str z) ∧ Q v H') E
theorem in1_sub {k : Nat} (hr : Room (k + 2) X.A) : Room k X.A.in1.in1 := hr.in1.in1
theorem own_run {A : Around} {pins : List (Addr × Obj)} {σ : L2.St} {H : Hp} {s : Shared} {Q : VK} {us : List Value} {vs : List V}
    (F : FnOk X.prog X.w X.K X.mg X.base CX n g fd ps sp) (hr : Room n A) (hf : A.frames = X.A.frames) (hb : Binds X.K fd ps [])
    (hx : Passes CX X E) (I : Inv X pins σ H s) (r : Vals vs us) (h : sp vs H Q E) :
    wpAny (model X.prog X.w) A (call (.ref g) us) (EP X pins σ Q) X.xe s := by
  have e0 : Env0 X.prog X.w X.K X.mg X.base A X.stack s H := by
    have e := I.env0
    exact ⟨by rw [hf]; exact e.frames, e.mod, e.bs, e.bsz, e.funs, e.frf, e.hok, e.bare⟩
  have hl : us.length = ps.length := by rw [← r.length]; exact F.len _ _ _ _ h
  have hbb := hb s us I.kIn (by simpa using hl)
  rw [List.append_nil] at hbb
  refine wpAny_call (codeAny_mono (F.run A X.stack s H ⟨us, []⟩ us vs Q E hr e0 hbb r h) fun r s' hq => ?_)
  rcases r with e | fl
  · exact hx pins σ H s e s' I hq
  · cases fl <;> first | exact I.after hq | exact False.elim hq
theorem call_strOwn (hs : PySem.W.findIn X.K (.ref C) "__str__" = some (some (.ref g))) (hf : PySem.W.isFn X.K (.ref g) = true)
    (F : FnOk X.prog X.w X.K X.mg X.base CX n g fd ps sp) (hr : Room (n + 2) X.A) (hb : Binds X.K fd ps []) (hx : Passes CX X E) :
    CallR X (.type "str") (rStrOwn C sp E) := by
  intro pins s σ H xs us Q I r h
  obtain ⟨a, dx, fs, rfl, ea, q⟩ := h
  obtain ⟨u, rfl, r1⟩ := vals1 r
  have e : u = Value.ref a := r1
  subst e
  obtain ⟨mA, O, _⟩ := ins_get I.hok ea
  obtain ⟨od, J, _⟩ := O.look
  refine PySem.W.kso_call (f := g) (by have := hr.un; show X.A.units + 1 + 1 < _; omega) I.kIn J hs hf ?_
  refine wpAny_mono (own_run (X := X) F hr.in1.in1 rfl hb hx I r q) (fun v s' hv => ?_) fun _ _ z => z
  obtain ⟨v1, H', I', rv, ⟨z, rfl⟩, q'⟩ := hv
  obtain ⟨t, rfl⟩ := rv
  exact ⟨.str z, H', I', ⟨t, rfl⟩, q'⟩
end

/-! ### f(k = v, ..): keywords alone -/
section
variable {X : Cx} {CX : CXT} {k : Nat} {f : Addr} {fd : FuncData} {ps ks : List Str} {sp : Sp} {E : XK} {x : Str} {p pos : Pos} {kws : List Keyword}
  {tk : TA} {g : List Value → List Value → List Value} {gV : List V → List V → List V}
theorem pe_callK0 (F : FnOk X.prog X.w X.K X.mg X.base CX k f fd ps sp) (hr : Room k X.A) (hg : Gl X x) (hm : X.mg x = some (.ref f))
    (hk : PySem.W.keepIn X.K (.ref f) = true) (hb : KBinds X.K fd ps ks g gV) (hx : Passes CX X E) (hkw : PK X kws tk)
    (hall : (backToKw pos (keywordEach kws X.env)).all (·.1.isSome) = true := by rfl)
    (hks : (backToKw pos (keywordEach kws X.env)).filterMap (·.1) = ks := by rfl)
    (hdb : (x == ("__debug__" : Str)) = false := by decide)
    (hpl : ((backTo pos (starEach [] X.env)).any (·.1) || (backToKw pos (keywordEach kws X.env)).any (·.1.isNone)) = false := by rfl) :
    PE X (.Call (.Name x p) [] kws pos) (tCallK sp gV E tNil tk) := by
  refine ⟨fun pins s σ H Q I h => ?_⟩
  refine wpAny_Call_Name_kw (ld_glob I hg hm ?_ hdb)
  refine PySem.W.callWith_KW0 (h₀ := X.base) I.ok.mod.kin hk hall ?_ hpl
  refine thn (hkw.run pos pins s σ H _ I h) fun ws s2 ⟨zs, H2, I2, rz, q2⟩ => ⟨I2.kIn, ?_⟩
  rw [hks]
  exact run_fnk (us := []) F hr hb hx I2 .nil rz q2
end

/-! ### == and != of an own instance, by the own == -/
section
variable {X : Cx} {CX : CXT} {n : Nat} {C g : Addr} {fd : FuncData} {ps : List Str} {sp : Sp} {E : XK}
/-- what is to be known of the right one: its class does not come first -/
def Rgt (K : PySem.W.Frag) (H : Hp) (C : Addr) (y : V) : Prop := ∃ t, TyX K H y t ∧ PySem.W.notFirst K C t = true
def rEqOwn (K : PySem.W.Frag) (C : Addr) (sp : Sp) (E : XK) : R2 := fun x y H Q =>
  ∃ a dx fs, x = .ref a ∧ H a = some (.ins C dx fs) ∧ Rgt K H C y ∧ sp [.ref a, y] H (fun v H' => ∃ b, v = .bl b ∧ Q (.bl b) H') E
def rNeOwn (K : PySem.W.Frag) (C : Addr) (sp : Sp) (E : XK) : R2 := fun x y H Q =>
  ∃ a dx fs, x = .ref a ∧ H a = some (.ins C dx fs) ∧ Rgt K H C y ∧ sp [.ref a, y] H (fun v H' => ∃ b, v = .bl b ∧ Q (.bl (!b)) H') E
/-- what the written part says of the class: its own ==, and that != is the plain one -/
structure EqC (K : PySem.W.Frag) (C g : Addr) : Prop where
  eq : PySem.W.findIn K (.ref C) "__eq__" = some (some (.ref g))
  fn : PySem.W.isFn K (.ref g) = true
  ne : PySem.W.findIn K (.ref C) "__ne__" = some (some (.builtin "object.__ne__"))
  ob : PySem.W.mroIn K C (.type "object") = some true
theorem op_eqOwn (c : EqC X.K C g) (F : FnOk X.prog X.w X.K X.mg X.base CX n g fd ps sp) (hr : Room n X.A) (hb : Binds X.K fd ps []) (hx : Passes CX X E) :
    OpR X (compareOp .Eq) (rEqOwn X.K C sp E) := by
  intro pins s σ H x y v u Q I rx ry h
  obtain ⟨a, dx, fs, rfl, ea, ⟨t, ty, nf⟩, q⟩ := h
  have e : v = Value.ref a := rx
  subst e
  obtain ⟨mA, O, _⟩ := ins_get I.hok ea
  obtain ⟨od, J, _⟩ := O.look
  obtain ⟨m, hF⟩ := I.fr
  obtain ⟨P, Z, p, _⟩ := kit_of I ry ty
  refine PySem.W.cmp_K (op := .Eq) (tb := t) hr.units0 hF I.ok.mod.kin J (Z.ty _ _ I.kIn p) nf c.eq c.fn ?_
  refine wpAny_mono (own_run (X := X) F hr rfl hb hx I (.cons rx (.cons ry .nil)) q) (fun v s' hv => ?_) fun _ _ z => z
  obtain ⟨v1, H', I', rv, b, rfl, q'⟩ := hv
  have e : v = Value.bool b := rv
  subst e
  exact ⟨.bl b, H', I', rfl, q'⟩
/-- a special name that is a built-in slot -/
theorem ifBound_slot {M : Model} {A : Around} {E : Value → Shared → Prop} {s : Shared} {K : PySem.W.Frag} {x C : Addr} {ox : Obj} {od : Option Obj} {name : Str} {id : String} {args : List Value} {Q : Option Value → Shared → Prop}
    (X : K.In s.heap) (I : PySem.W.InstAt s.heap x ox C od) (hs : PySem.W.findIn K (.ref C) name = some (some (.builtin id)))
    (hb : ∀ self, bindSpecial (.builtin id) self = pure (.builtin id, [self]))
    (h : wpAny M A (call (.builtin id) (.ref x :: args)) (fun v => Q (some v)) E s) : wpAny M A (callSpecialIfBound? (.ref x) name args) Q E s := by
  simp only [callSpecialIfBound?, bindSpecialIfBound?]
  refine wpAny_holding (wpAny_bind (wpAny_bind (wpAny_bind (I.type.here ((PySem.W.looks_findIn X hs).here ?_)))))
  simp only [hb]
  refine wpAny_bind (wpAny_askSetting (wpAny_ite ?_))
  have fin : wpAny M A (call (.builtin id) ([.ref x] ++ args) >>= fun v => pure (some v)) Q E s :=
    wpAny_bind (wpAny_mono h (fun v s' h' => wpAny_pure h') fun _ _ h' => h')
  split
  · exact wpAny_bind (wpAny_pure (wpAny_pure fin))
  · exact wpAny_tryCatch (wpAny_bind (wpAny_pure (wpAny_pure fin)))
theorem bind_objNe (self : Value) : bindSpecial (.builtin "object.__ne__") self = pure (.builtin "object.__ne__", [self]) := PySem.F.slot_object_ne.bind self
theorem op_neOwn (c : EqC X.K C g) (F : FnOk X.prog X.w X.K X.mg X.base CX n g fd ps sp) (hr : Room (n + 1) X.A) (hb : Binds X.K fd ps []) (hx : Passes CX X E) :
    OpR X (compareOp .NotEq) (rNeOwn X.K C sp E) := by
  intro pins s σ H x y v u Q I rx ry h
  obtain ⟨a, dx, fs, rfl, ea, ⟨t, ty, nf⟩, q⟩ := h
  have e : v = Value.ref a := rx
  subst e
  obtain ⟨mA, O, _⟩ := ins_get I.hok ea
  obtain ⟨od, J, _⟩ := O.look
  obtain ⟨P, Z, p, _⟩ := kit_of I ry ty
  have KX := I.kIn
  have one : wpAny (model X.prog X.w) X.A (tryCompare (.ref a) (cmpInfo .NotEq).2.1 u) (fun r s' => ∃ v, r = some v ∧ EP X pins σ Q v s') X.xe s := by
    unfold tryCompare
    refine wpAny_bind (ifBound_slot KX J c.ne bind_objNe ?_)
    refine wpAny_call (codeAny_call_builtin PySem.F.slot_object_ne.plain PySem.F.cmpEntry_ne (PySem.W.check_slot (i := "object.__ne__") (owner := "object") (n := "__ne__") (by decide +kernel) (by decide +kernel) (J.type.andThen (PySem.W.looks_mroIn KX c.ob)) (PySem.F.cmpArgs_ne _ _) ?_))
    unfold Builtin.«object.__ne__»
    refine wpAny_bind (m := slotArgs "__ne__" 1 _) (wpAny_pure ?_)
    refine wpAny_bind (m := cRoomFor _ _) (wpAny_cRoomFor (by have := hr.un; show X.A.units + 1 < _; omega) ?_)
    refine wpAny_bind (m := callSpecialIfBound? (.ref a) (Str.ofString "__eq__") _) (PySem.W.ifBound_K KX J c.eq c.fn ?_)
    refine wpAny_mono (own_run (X := X) (A := X.A.in1) F hr.in1 rfl hb hx I (.cons rx (.cons ry .nil)) q) (fun v s' hv => ?_) fun _ _ z => z
    obtain ⟨v1, H', I', rv, b, rfl, q'⟩ := hv
    have e : v = Value.bool b := rv
    subst e
    refine wpAny_bind (m := truthy (.bool b)) (wpAny_truthy_bool ?_)
    refine wpAny_pure ?_
    exact wpAny_pure ⟨_, rfl, .bl (!b), H', I', rfl, q'⟩
  show wpAny _ _ (richCompare .NotEq (.ref a) u) _ _ _
  unfold richCompare
  simp only [oneThing_ref]
  refine wpAny_holding (wpAny_bind (wpAny_cRoomFor hr.units0 ?_))
  refine wpAny_bind (J.type.here (wpAny_bind ((Z.ty _ _ I.kIn p).here ?_)))
  split
  · rename_i q0
    have e : PySem.W.subIn X.K t (.ref C) = some false := by
      rcases Bool.or_eq_true_iff.mp nf with e | e
      · rw [beq_iff_eq.mp e] at q0; simp at q0
      · exact beq_iff_eq.mp e
    refine wpAny_bind ((PySem.W.looks_subIn KX e).here ?_)
    simp only [Bool.false_eq_true, if_false]
    refine wpAny_bind (wpAny_mono one (fun r s' z => ?_) fun _ _ e => e)
    obtain ⟨v, rfl, hq⟩ := z
    exact wpAny_pure hq
  · refine wpAny_bind (wpAny_pure ?_)
    simp only [Bool.false_eq_true, if_false]
    refine wpAny_bind (wpAny_mono one (fun r s' z => ?_) fun _ _ e => e)
    obtain ⟨v, rfl, hq⟩ := z
    exact wpAny_pure hq
end
end Own

/-! Defs that may call repr: promises that hold where no repr is under way -/
namespace Own
open PySem PySem.Spec PyProof.Rows L2

structure FnG (P : Program) (w : World) (K : PySem.W.Frag) (mg : Str → Option Value) (base : Heap) (k : Nat) (f : Addr) (fd : FuncData) (ps : List Str) (sp : Sp) : Prop where
  len : ∀ vs H Q E, sp vs H Q E → vs.length = ps.length
  go : ∀ (A : Around) (outer : List Env) (s : Shared) (H : Hp) (args : Args) (us : List Value) (vs : List V) (Q : VK) (E : XK),
    A.guards = some [] → Room k A → Env0 P w K mg base A outer s H → BindsTo s fd args (ps.zip us) → Vals vs us → sp vs H Q E →
    codeAny (model P w) A (.call (.ref f) args) (CR CX0 outer P w H s Q E) s
theorem FnG.of {P : Program} {w : World} {K : PySem.W.Frag} {mg : Str → Option Value} {base : Heap} {k : Nat} {f : Addr} {fd : FuncData} {ps : List Str} {sp : Sp}
    (F : FnOk P w K mg base CX0 k f fd ps sp) : FnG P w K mg base k f fd ps sp :=
  ⟨F.len, fun A outer s H args us vs Q E _ => F.run A outer s H args us vs Q E⟩

section
variable {P : Program} {w : World} {K : PySem.W.Frag} {mg : Str → Option Value} {base : Heap} {x qual : Str} {st : Stmt} {f : Addr} {fd : FuncData} {N ps : List Str} {k : Nat} {sp : Sp}
theorem okG (F : Fun K x qual st f fd) (S : FnScope N ps (defScope st)) (len : ∀ vs H Q E, sp vs H Q E → vs.length = ps.length)
    (hbody : ∀ (cdv : Value) (A : Around) (outer : List Env) (s : Shared) (H : Hp) (vs : List V) (Q : VK) (E : XK),
      A.guards = some [] → Room k (A.deeper (envOfC qual (defScope st) s.heap.objs.size f cdv)) → sp vs H Q E →
      ∃ t, PSs (cxOf CX0 P w K mg base N qual (defScope st) f cdv A outer s H E).nox (defBody st) t ∧
        t { nx := fun _ H' => Q .non H', rt := Q } (start N vs) H) : FnG P w K mg base (k + 1) f fd ps sp := by
  obtain ⟨oc, od, kV, doc, pm, an, cdv, ct, osl, rfl, lk, hcd⟩ := F.ex
  constructor
  · exact len
  intro A outer s H args us vs Q E hg hr e0 hb r hsp
  have keep : ∀ b o, base.get? b = some o → s.heap.get? b = some o := fun b o e => (e0.bs b o e).1
  have hin : K.In s.heap := e0.mod.kin.keeps keep
  have hkind : ∀ y ∈ ps.zip us, (defScope st).names.lookup y.1 = some .local ∨
      ((defScope st).names.lookup y.1 = some .cell ∧ ((cellsFrom (s.heap.objs.size + 1) (defScope st).names []).lookup y.1).isSome = true) := by
    rintro ⟨n, v⟩ hy
    exact (S.par n (List.of_mem_zip hy).1).imp id fun q => ⟨q, PySem.W.cellsFrom_some _ _ _ (.inl q)⟩
  refine codeAny_call_function hr.depth (hin _ _ lk) rfl S.co S.gen rfl (PySem.W.codeRec_of hin hcd) (hb _ _ _ _ ?_)
  refine wpAny_newFunctionEnv_cells S.kind hkind fun env he s1 z => ?_
  subst he
  refine ⟨(e0.mod.nolimit.keeps keep).keeps z.toInCall.keep, codeAny_func ?_⟩
  obtain ⟨t, ht, hq⟩ := hbody cdv A outer s H vs Q E hg (hr.deeper _) hsp
  have J := inv_start (CX := CX0) (E := E) S hr.hd e0 (len _ _ _ _ hsp) r z
  refine wpAny_mono (ht.nox.run [] s1 (start N vs) H _ J hq) (fun fl s' hs => ?_) fun e s' hs => hs
  cases fl with
  | ret u =>
    obtain ⟨v, σ', H', J', rv, q⟩ := hs
    exact ⟨v, H', J'.os, J'.bare, J'.base, J'.hok, rv, q⟩
  | next =>
    obtain ⟨σ', H', J', q⟩ := hs
    exact ⟨.non, H', J'.os, J'.bare, J'.base, J'.hok, rfl, q⟩
  | brk => exact (hs.choose_spec.choose_spec.2 : False).elim
  | cont => exact (hs.choose_spec.choose_spec.2 : False).elim
end

section
variable {X : Cx} {k : Nat} {f : Addr} {fd : FuncData} {ps : List Str} {sp : Sp} {x : Str} {p pos : Pos} {e : Expr} {es : List Expr} {t : TA}
theorem goG {pins : List (Addr × Obj)} {σ : L2.St} {H : Hp} {s : Shared} {Q : VK} {us : List Value} {vs : List V}
    (F : FnG X.prog X.w X.K X.mg X.base k f fd ps sp) (hg : X.A.guards = some []) (hr : Room k X.A) (hb : Binds X.K fd ps [])
    (I : Inv X pins σ H s) (r : Vals vs us) (h : sp vs H Q E0) : wpAny (model X.prog X.w) X.A (call (.ref f) us) (EP X pins σ Q) X.xe s := by
  have hl : us.length = ps.length := by rw [← r.length]; exact F.len _ _ _ _ h
  have bb := hb s us I.kIn (by simpa using hl)
  rw [List.append_nil] at bb
  refine wpAny_call (codeAny_mono (F.go X.A X.stack s H ⟨us, []⟩ us vs Q E0 hg hr I.env0 bb r h) fun r s' hq => ?_)
  rcases r with e | fl
  · exact (hq : False).elim
  · cases fl <;> first | exact I.after hq | exact (hq : False).elim
def tCallG (sp : Sp) (t : TA) : TE := fun σ H Q => t σ H fun vs H1 => sp vs H1 Q E0
theorem pe_callG (F : FnG X.prog X.w X.K X.mg X.base k f fd ps sp) (hgd : X.A.guards = some []) (hr : Room k X.A) (hg : Gl X x) (hm : X.mg x = some (.ref f))
    (hk : PySem.W.keepIn X.K (.ref f) = true) (hb : Binds X.K fd ps []) (ha : PA X (e :: es) t)
    (hdb : (x == ("__debug__" : Str)) = false := by decide) (he : starEach (e :: es) X.env = (false, eval e X.env) :: starEach es X.env := by rfl)
    (hpl : (backTo pos (starEach es X.env)).any (·.1) = false := by rfl) :
    PE X (.Call (.Name x p) (e :: es) [] pos) (tCallG sp t) := by
  constructor
  intro pins s σ H Q I h
  refine wpAny_Call_Name_kw (ld_glob I hg hm ?_ hdb)
  exact PySem.W.callWith_K (h₀ := X.base) I.ok.mod.kin hk (thn (ha.run pos pins s σ H _ I h) fun us s1 ⟨vs, H1, I1, r, q⟩ => ⟨I1.kIn, goG F hgd hr hb I1 r q⟩) he hpl
end

/-! ### the law's own call, where no repr is under way -/
theorem nothing_in {b : Addr} : ¬ b ∈ ([] : List Addr) := by simp
theorem lawG0 {P : Program} {w : World} {K : PySem.W.Frag} {mg mb : Str → Option Value} {k : Nat} {fa a : Addr} {fd : FuncData} {x : Str} {sp : Sp} {s₁ : Shared} {vs : List Value} {ns : List Int} {H : Hp}
    (KX : K.In s₁.heap) (hns : s₁.heap.Ns mainGlobals mg) (hb : s₁.heap.Ns builtinsNs mb) (hbb : ∀ x : Str, x ≠ "__name__" → mb x = bootBuiltins x)
    (hlim : s₁.heap.NoLimit) (hg : s₁.gens = #[]) (ha : s₁.heap.get? a = some { cls := .type "list", data := .seq vs.toArray }) (hr : Room k callerA)
    (F : ∀ base : Heap, K.In base → base.Ns mainGlobals mg → FnG P w K mg base k fa fd [x] sp) (hbind : ∀ (s : Shared) (u : Value), BindsTo s fd ⟨[u], []⟩ [(x, u)])
    (hO : Only H) (hok : HOk P w H s₁.heap) (hA : ∀ b, H b ≠ none → b = a) (hK : H a ≠ none → K.lookup a = none)
    (hsp : sp [.ref a] H (fun v _ => v = .bl true) E0) :
    codeAny (model P w) callerA (.call (.ref fa) ⟨[.ref a], []⟩)
      (fun r s' => r = .ok (.ret (.bool true)) ∧ OldK s₁.heap s'.heap ∧ s'.os = s₁.os ∧ AllBare s'.gens) s₁ := by
  have out : ∀ {b : Addr}, b ≠ a → H b = none := fun {b} h => by
    cases q : H b with
    | none => rfl
    | some u => exact absurd (hA b (by rw [q]; simp)) h
  have nsK : ∀ {b : Addr} {m : Str → Option Value}, s₁.heap.Ns b m → (hidT s₁.heap H).Ns b m := by
    rintro b m ⟨o, es, ep, e, d, r⟩
    refine ⟨o, es, ep, hidT_get e (out ?_), d, r⟩
    rintro rfl
    rw [ha] at e
    cases e
    cases d
  have hKb : K.In (hidT s₁.heap H) := by
    intro b o e
    refine hidT_get (KX b o e) ?_
    cases q : H b with
    | none => rfl
    | some u =>
      have z := hA b (by rw [q]; simp)
      subst z
      rw [hK (by rw [q]; simp)] at e
      cases e
  obtain ⟨mc, l1, l2⟩ := hlim
  have e0 : Env0 P w K mg (hidT s₁.heap H) callerA [] s₁ H :=
    ⟨rfl, ⟨hKb, nsK hns, ⟨mb, nsK hb, hbb⟩, ⟨mc, nsK l1, l2⟩⟩, fun b o e => of_hidT e, Nat.le_of_eq (hidT_size _ _), trivial, fun b z => (nothing_in z).elim, hok, .of_eq hg⟩
  have run := (F _ hKb (nsK hns)).go callerA [] s₁ H ⟨[.ref a], []⟩ [.ref a] [.ref a] _ _ rfl hr e0 (hbind s₁ (.ref a)) (.cons rfl .nil) hsp
  refine codeAny_mono run fun r s' h => ?_
  rcases r with e | fl
  · exact (h : False).elim
  cases fl with
  | next => exact (h : False).elim
  | brk => exact (h : False).elim
  | cont => exact (h : False).elim
  | ret u =>
    obtain ⟨v, H', os, bare, un, hok', r', q⟩ := h
    have q' : v = .bl true := q
    subst q'
    have e : u = Value.bool true := r'
    subst e
    refine ⟨rfl, OldK.of_keep ?_, os, bare⟩
    intro b o e
    rcases hO b with z | ⟨ob, xs, z⟩
    · exact un.keep b o e z (fun y => nothing_in y) nothing_in
    · have e2 := (hok' b _ (un.frzs b ob _ z)).1
      have e1 := (hok b _ z).1
      rw [e] at e1
      cases e1
      exact e2
theorem lawG {P : Program} {w : World} {K : PySem.W.Frag} {mg mb : Str → Option Value} {k : Nat} {fa a : Addr} {fd : FuncData} {x : Str} {sp : Sp} {s₁ : Shared} {vs : List Value} {ns : List Int}
    (KX : K.In s₁.heap) (hns : s₁.heap.Ns mainGlobals mg) (hb : s₁.heap.Ns builtinsNs mb) (hbb : ∀ x : Str, x ≠ "__name__" → mb x = bootBuiltins x)
    (hlim : s₁.heap.NoLimit) (hg : s₁.gens = #[]) (ha : s₁.heap.get? a = some { cls := .type "list", data := .seq vs.toArray }) (hi : IntsAre vs ns)
    (hl : ns.length ≤ sizeLine) (hr : Room k callerA)
    (F : ∀ base : Heap, K.In base → base.Ns mainGlobals mg → FnG P w K mg base k fa fd [x] sp) (hbind : ∀ (s : Shared) (u : Value), BindsTo s fd ⟨[u], []⟩ [(x, u)])
    (hsp : ∀ H : Hp, Only H → SqL K H a (ns.map V.int) → sp [.ref a] H (fun v _ => v = .bl true) E0) :
    codeAny (model P w) callerA (.call (.ref fa) ⟨[.ref a], []⟩)
      (fun r s' => r = .ok (.ret (.bool true)) ∧ OldK s₁.heap s'.heap ∧ s'.os = s₁.os ∧ AllBare s'.gens) s₁ := by
  have rv := vals_ints hi
  cases hk : K.lookup a with
  | some o =>
    have e := KX a o hk
    rw [ha] at e
    cases e
    have only : Only (fun _ => none) := fun _ => .inl rfl
    refine lawG0 (H := fun _ => none) (ns := ns) KX hns hb hbb hlim hg ha hr F hbind only (fun b u z => nomatch (z : (none : Option HO) = some u)) (fun b z => absurd rfl z) (fun z => absurd rfl z) (hsp _ only ?_)
    exact .inr ⟨_, vs.toArray, _, hk, rfl, rfl, rfl, by rw [List.size_toArray, hi.length]; exact hl, by simpa using rv⟩
  | none =>
    let H1 : Hp := fun b => if b = a then some (.frz { cls := .type "list", data := .seq vs.toArray } (.lst (ns.map V.int))) else none
    have at1 : H1 a = some (.frz { cls := .type "list", data := .seq vs.toArray } (.lst (ns.map V.int))) := if_pos rfl
    have off : ∀ b, b ≠ a → H1 b = none := fun b h => if_neg h
    have only : Only H1 := by
      intro b
      by_cases h : b = a
      · subst h; exact .inr ⟨_, _, at1⟩
      · exact .inl (off b h)
    refine lawG0 (H := H1) (ns := ns) KX hns hb hbb hlim hg ha hr F hbind only ?_ (fun b z => ?_) (fun _ => hk) (hsp H1 only (.inl (.inr ⟨_, at1⟩)))
    · intro b u z
      by_cases h : b = a
      · subst h
        rw [at1] at z
        cases z
        exact ⟨ha, by rw [List.length_map]; exact hl, vs, _, rv, ha⟩
      · rw [off b h] at z
        cases z
    · by_cases h : b = a
      · exact h
      · exact absurd (off b h) z
theorem walkG {l : PySem.W.OpenLaw} {n k : Nat} {q : Program} {loose : List Str} {XP : (Str → Option Value) → Heap → Prop} {YP : World → Heap → Prop} {d : DefRec} {K : Params → PySem.W.Frag} {sp : PySem.W.Frag → Sp} {x : Str}
    (hn : l.most = some n) (hn2 : n ≤ sizeLine) (hdf : d.params.defaults = []) (hr : Room k callerA)
    (hY : ∀ (w : World) (h : Heap), YP w h → (K w.params).In h)
    (F : ∀ (w : World) (mg : Str → Option Value) (fa : Addr) (h : Heap), (K w.params).In h → h.Ns mainGlobals mg → mg d.name = some (.ref fa) →
      ∃ fd : FuncData, (∀ (s : Shared) (u : Value), BindsTo s fd ⟨[u], []⟩ [(x, u)]) ∧
        ∀ base : Heap, (K w.params).In base → base.Ns mainGlobals mg → FnG l.prog w (K w.params) mg base k fa fd [x] (sp (K w.params)))
    (hsp : ∀ (K : PySem.W.Frag) (H : Hp) (a : Addr) (ns : List Int), ns.length ≤ n → Only H → SqL K H a (ns.map V.int) → sp K [.ref a] H (fun v _ => v = .bl true) E0) :
    PySem.W.WalkO q loose XP YP l.row.toRowW d [] (fun f vs => PySem.call f vs) := by
  refine Att.attach_call hn hdf fun w s₀ s₁ mg mb fa o pm cd doc a vs ns G Y ho hd hcd hmg hobj hints hlen hg => ?_
  obtain ⟨fd, hb, hF⟩ := F w mg fa _ (hY w _ Y) G.T.g hmg
  exact lawG (hY w _ Y) G.T.g G.T.b G.T.builtins G.T.nolimit hg hobj hints (Nat.le_trans hlen hn2) hr hF hb fun H hO hS => hsp _ H a ns hlen hO hS
end Own

/-! What stands still while the heap grows: M is the part that is told of, H the whole -/
namespace Own
open PySem PySem.Spec PyProof.Rows L2

structure Gr (M H M' H' : Hp) : Prop where
  ex : Same M M'
  inn : Same M' H'
  out : ∀ b o, M b = none → H b = some o → M' b = none ∧ H' b = some o
section
variable {M H M1 H1 M2 H2 : Hp} {p x dx : Addr} {o : HO} {K : PySem.W.Frag}
theorem Gr.refl (h : Same M H) : Gr M H M H := ⟨Same.refl M, h, fun _ _ a b => ⟨a, b⟩⟩
theorem Gr.trans (g1 : Gr M H M1 H1) (g2 : Gr M1 H1 M2 H2) : Gr M H M2 H2 :=
  ⟨g1.ex.trans g2.ex, g2.inn, fun b o a c => let z := g1.out b o a c; g2.out b o z.1 z.2⟩
theorem same_new (h : H p = none) : Same H (upd H p o) := fun b u e => by
  rw [upd_ne (ne_of_none e h)]
  exact e
theorem Same.off (h : Same M H) (hp : H p = none) : M p = none := h.free hp
theorem gr_new (h : Same M H) (hp : H p = none) : Gr M H (upd M p o) (upd H p o) := by
  refine ⟨same_new (h.free hp), ?_, ?_⟩
  · intro b u e
    by_cases hb : b = p
    · subst hb
      rw [upd_same] at e ⊢
      exact e
    · rw [upd_ne hb] at e ⊢
      exact h b u e
  · intro b u e1 e2
    have hb : b ≠ p := ne_of_none e2 hp
    rw [upd_ne hb, upd_ne hb]
    exact ⟨e1, e2⟩
theorem gr_ins {C : Addr} {fs : List (Str × V)} (h : Same M H) (hx : H x = none) (hd : H dx = none) (ne : dx ≠ x) :
    Gr M H (upd (upd M dx (.own x)) x (.ins C dx fs)) (upd (upd H dx (.own x)) x (.ins C dx fs)) := by
  have g1 : Gr M H (upd M dx (.own x)) (upd H dx (.own x)) := gr_new h hd
  exact g1.trans (gr_new g1.inn (by rw [upd_ne ne.symm]; exact hx))
theorem Gr.same (h : Same M H) (g : Gr M H M1 H1) : Same H H1 := fun b o e => by
  cases q : M b with
  | none => exact (g.out b o q e).2
  | some u =>
    have z := h b u q
    rw [e] at z
    cases z
    exact g.inn b o (g.ex b o q)
theorem Gr.one {n : Nat} {v : Addr} (g : Gr M H M1 H1) (hv : M v = none) (ho : H v = some o) : H1 v = some o ∧ M1 v = none :=
  let z := g.out v o hv ho
  ⟨z.2, z.1⟩
theorem same_t {a : Addr} {xs : List V} (e : Same M M1) (h : SqT K M a xs) : SqT K M1 a xs := by
  rcases h with (h | ⟨o, h⟩) | h
  · exact .inl (.inl (e _ _ h))
  · exact .inl (.inr ⟨o, e _ _ h⟩)
  · exact .inr h
end
mutual
theorem dp_mono {K : PySem.W.Frag} {M M1 : Hp} (e : Same M M1) : ∀ {v : V} {d : PyData}, Dp K M v d → Dp K M1 v d
  | _, _, .non => .non
  | _, _, .bl b => .bl b
  | _, _, .int i => .int i
  | _, _, .str x => .str x
  | _, _, .lst h a => .lst (e.seq h) (dps_mono e a)
  | _, _, .tup h a => .tup (same_t e h) (dps_mono e a)
theorem dps_mono {K : PySem.W.Frag} {M M1 : Hp} (e : Same M M1) : ∀ {vs : List V} {ds : List PyData}, DpAll K M vs ds → DpAll K M1 vs ds
  | _, _, .nil => .nil
  | _, _, .cons h a => .cons (dp_mono e h) (dps_mono e a)
end
/-! ### promises by the number of arguments -/
def sp0 (f : Hp → VK → Prop) : Sp := fun vs H Q _ => vs = [] ∧ f H Q
def sp1 (f : V → Hp → VK → Prop) : Sp := fun vs H Q _ => ∃ x, vs = [x] ∧ f x H Q
def sp2 (f : V → V → Hp → VK → Prop) : Sp := fun vs H Q _ => ∃ x y, vs = [x, y] ∧ f x y H Q
def sp3 (f : V → V → V → Hp → VK → Prop) : Sp := fun vs H Q _ => ∃ x y z, vs = [x, y, z] ∧ f x y z H Q
theorem len0 {f : Hp → VK → Prop} {ps : List Str} (hp : ps.length = 0) : ∀ vs H Q E, sp0 f vs H Q E → vs.length = ps.length := fun _ _ _ _ h => by
  obtain ⟨rfl, _⟩ := h
  exact hp.symm
theorem len1 {f : V → Hp → VK → Prop} {ps : List Str} (hp : ps.length = 1) : ∀ vs H Q E, sp1 f vs H Q E → vs.length = ps.length := fun _ _ _ _ h => by
  obtain ⟨x, rfl, _⟩ := h
  exact hp.symm
theorem len2 {f : V → V → Hp → VK → Prop} {ps : List Str} (hp : ps.length = 2) : ∀ vs H Q E, sp2 f vs H Q E → vs.length = ps.length := fun _ _ _ _ h => by
  obtain ⟨x, y, rfl, _⟩ := h
  exact hp.symm
theorem len3 {f : V → V → V → Hp → VK → Prop} {ps : List Str} (hp : ps.length = 3) : ∀ vs H Q E, sp3 f vs H Q E → vs.length = ps.length := fun _ _ _ _ h => by
  obtain ⟨x, y, z, rfl, _⟩ := h
  exact hp.symm
/-! ### the drawer: a list of three ints that is written, beside what stands still -/
structure Vl (v : Addr) (n : Nat) (M H : Hp) : Prop where
  inn : Same M H
  off : M v = none
  at_ : ∃ a b c : Int, H v = some (.lst [.int a, .int b, .int c]) ∧ 0 ≤ a ∧ 0 ≤ c ∧ c ≤ n
section
variable {v : Addr} {n m : Nat} {M H M1 H1 : Hp}
theorem Vl.grow (w : Vl v n M H) (g : Gr M H M1 H1) : Vl v n M1 H1 := by
  obtain ⟨a, b, c, h, r⟩ := w.at_
  have z := g.out v _ w.off h
  exact ⟨g.inn, z.1, a, b, c, z.2, r⟩
theorem Vl.mono (w : Vl v n M H) (h : n ≤ m) : Vl v m M H := by
  obtain ⟨a, b, c, e, h0, h1, h2⟩ := w.at_
  exact ⟨w.inn, w.off, a, b, c, e, h0, h1, by omega⟩
end
/-! ### keyword calls in the opposite order, and in the order -/
def gRev {α : Type} (us ws : List α) : List α := match us with
  | [] => ws.reverse
  | _ => []
def gFwd {α : Type} (us ws : List α) : List α := match us with
  | [] => ws
  | _ => []
theorem vals_rev : ∀ {zs : List V} {ws : List Value}, Vals zs ws → Vals zs.reverse ws.reverse
  | _, _, .nil => .nil
  | _, _, .cons h t => by
    rw [List.reverse_cons, List.reverse_cons]
    exact (vals_rev t).append (.cons h .nil)
theorem kb_rev {K : PySem.W.Frag} {x qual : Str} {st : Stmt} {f : Addr} {fd : FuncData} {ps ks : List Str} (F : Fun K x qual st f fd) (h0 : ps ≠ [])
    (h : ∀ (kV doc pm : Value) (an : Option Addr) (cdv ct : Value) (ws : List Value), ws.length = ps.length →
      bindArgs (PySem.W.fnOf x qual (defArgs st) (defBody st) (defScope st) .none kV doc pm an cdv ct) ⟨[], ks.zip ws⟩ = pure (ps.zip ws.reverse)) :
    KBinds K fd ps ks gRev gRev := by
  obtain ⟨oc, od, kV, doc, pm, an, cdv, ct, osl, rfl, lk, hcd⟩ := F.ex
  constructor
  · intro s us ws _ hl
    cases us with
    | nil => exact .of_eq (h kV doc pm an cdv ct ws (by simpa [gRev] using hl))
    | cons u us => exact absurd (List.length_eq_zero_iff.mp hl.symm) h0
  · intro vs us zs ws r rz
    cases r with
    | nil => exact vals_rev rz
    | cons _ _ => exact .nil
theorem kb_fwd {K : PySem.W.Frag} {x qual : Str} {st : Stmt} {f : Addr} {fd : FuncData} {ps ks : List Str} (F : Fun K x qual st f fd) (h0 : ps ≠ [])
    (h : ∀ (kV doc pm : Value) (an : Option Addr) (cdv ct : Value) (ws : List Value), ws.length = ps.length →
      bindArgs (PySem.W.fnOf x qual (defArgs st) (defBody st) (defScope st) .none kV doc pm an cdv ct) ⟨[], ks.zip ws⟩ = pure (ps.zip ws)) :
    KBinds K fd ps ks gFwd gFwd := by
  obtain ⟨oc, od, kV, doc, pm, an, cdv, ct, osl, rfl, lk, hcd⟩ := F.ex
  constructor
  · intro s us ws _ hl
    cases us with
    | nil => exact .of_eq (h kV doc pm an cdv ct ws (by simpa [gFwd] using hl))
    | cons u us => exact absurd (List.length_eq_zero_iff.mp hl.symm) h0
  · intro vs us zs ws r rz
    cases r with
    | nil => exact rz
    | cons _ _ => exact .nil
/-! ### sizes -/
theorem log_lt {i : Int} (h : i.natAbs < 10 ^ 300) : i.natAbs.log2 < 1920 := by
  by_cases h0 : i.natAbs = 0
  · rw [h0]; decide
  · rw [Nat.log2_lt h0]
    exact Nat.lt_trans h (by decide +kernel)
theorem kit_self {K : PySem.W.Frag} {t : Value} : PySem.W.kitOne K t t = some true := by
  unfold PySem.W.kitOne
  simp
theorem i_int {K : PySem.W.Frag} {H : Hp} (i : Int) : TyX K H (.int i) (.type "int") := .base (.int i)
end Own
namespace Own
open PySem PySem.Spec PyProof.Rows L2
/-- an own class as isinstance and == want it -/
structure OwnC (K : PySem.W.Frag) (C : Addr) : Prop where
  cl : Cls K C
  ha : PySem.W.findIn K (.ref C) "__class__" = some (some (.builtin "object.__class__"))
  hn : PySem.W.specialIn K (.builtin "object.__class__") "__get__" = some (some (.builtin "getset_descriptor.__get__"))
  ht : PySem.W.takesIn K (.builtin "object.__class__") = some true
  hm : PySem.W.mroIn K C (.type "object") = some true
theorem OwnC.ty {K : PySem.W.Frag} {C p dx : Addr} {H : Hp} {fs : List (Str × V)} (c : OwnC K C) (h : H p = some (.ins C dx fs)) : TyX K H (.ref p) (.ref C) :=
  .base (.ins h c.cl c.ha c.hn c.ht c.hm)
theorem nf_self {K : PySem.W.Frag} {C : Addr} : PySem.W.notFirst K C (.ref C) = true := by
  unfold PySem.W.notFirst
  simp
theorem OwnC.rgt {K : PySem.W.Frag} {C p dx : Addr} {H : Hp} {fs : List (Str × V)} (c : OwnC K C) (h : H p = some (.ins C dx fs)) : Rgt K H C (.ref p) :=
  ⟨_, c.ty h, nf_self⟩
end Own
namespace Own
open PySem PySem.Spec PyProof.Rows L2
/-! ### data that can be shown -/
mutual
def Oky : PyData → Prop
  | .none => True
  | .bool _ => True
  | .int i => i.natAbs < 10 ^ 300
  | .str x => ∀ c ∈ x.cps.toList, c < 16 ^ 8
  | .list xs => OkyAll xs
  | .tuple xs => OkyAll xs
  | .dict _ => False
def OkyAll : List PyData → Prop
  | [] => True
  | x :: xs => Oky x ∧ OkyAll xs
end
mutual
theorem Oky.all : ∀ {d : PyData}, Oky d → d.showable = true ∧ d.hasDict = false ∧ d.leavesShort 400 = true
  | .none, _ => ⟨rfl, rfl, rfl⟩
  | .bool _, _ => ⟨rfl, rfl, rfl⟩
  | .int i, h => by
    have h1 : i.natAbs < 10 ^ 300 := h
    have h2 := int_text_length_le10 (a := i) (k := 300) (by decide) h1
    refine ⟨?_, rfl, ?_⟩
    · simp only [PyData.showable, decide_eq_true_eq]
      exact log_lt h1
    · have e : (PyData.shown (.int i)).length ≤ 400 := by
        show (Str.ofString (toString i)).length ≤ 400
        rw [PySem.ofString_length]
        omega
      simpa only [PyData.leavesShort, decide_eq_true_eq] using e
  | .str x, h => by
    refine ⟨rfl, rfl, ?_⟩
    simp only [PyData.leavesShort, List.all_eq_true, decide_eq_true_eq]
    exact h
  | .list xs, h => by
    have z := OkyAll.all (xs := xs) h
    exact ⟨by simpa [PyData.showable] using z.1, by simpa [PyData.hasDict] using z.2.1, by simpa [PyData.leavesShort] using z.2.2⟩
  | .tuple xs, h => by
    have z := OkyAll.all (xs := xs) h
    exact ⟨by simpa [PyData.showable] using z.1, by simpa [PyData.hasDict] using z.2.1, by simpa [PyData.leavesShort] using z.2.2⟩
  | .dict _, h => h.elim
theorem OkyAll.all : ∀ {xs : List PyData}, OkyAll xs → PyData.showableAll xs = true ∧ PyData.hasDictAll xs = false ∧ PyData.leavesShortAll 400 xs = true
  | [], _ => ⟨rfl, rfl, rfl⟩
  | x :: xs, h => by
    have z := Oky.all (d := x) h.1
    have y := OkyAll.all (xs := xs) h.2
    exact ⟨by simp [PyData.showableAll, z.1, y.1], by simp [PyData.hasDictAll, z.2.1, y.2.1], by simp [PyData.leavesShortAll, z.2.2, y.2.2]⟩
end
mutual
def wt : PyData → Nat
  | .none => 0
  | .bool _ => 0
  | .int _ => 1000
  | .str x => x.cps.size
  | .list xs => wtAll xs
  | .tuple xs => wtAll xs
  | .dict _ => 0
def wtAll : List PyData → Nat
  | [] => 0
  | x :: xs => wt x + 1 + wtAll xs
end
mutual
theorem wt_le : ∀ {d : PyData}, Oky d → d.weight ≤ wt d
  | .none, _ => Nat.le_refl _
  | .bool _, _ => Nat.le_refl _
  | .int i, h => by
    have h1 : i.natAbs < 10 ^ 300 := h
    show (if i == 0 then 0 else i.natAbs.log2 + 1) ≤ 1000
    split
    · omega
    · rename_i z
      have h0 : i.natAbs ≠ 0 := by
        intro e
        have : i = 0 := Int.natAbs_eq_zero.mp e
        subst this
        exact z rfl
      have h2 : i.natAbs.log2 < 999 := by
        rw [Nat.log2_lt h0]
        exact Nat.lt_trans h1 (by decide +kernel)
      omega
  | .str x, _ => Nat.le_refl _
  | .list xs, h => by
    show PyData.weightAll xs ≤ wtAll xs
    exact wtAll_le (xs := xs) h
  | .tuple xs, h => by
    show PyData.weightAll xs ≤ wtAll xs
    exact wtAll_le (xs := xs) h
  | .dict _, h => h.elim
theorem wtAll_le : ∀ {xs : List PyData}, OkyAll xs → PyData.weightAll xs ≤ wtAll xs
  | [], _ => Nat.le_refl _
  | x :: xs, h => by
    have a := wt_le (d := x) h.1
    have b := wtAll_le (xs := xs) h.2
    show x.weight + 1 + PyData.weightAll xs ≤ wt x + 1 + wtAll xs
    omega
end
def rReprO (K : PySem.W.Frag) : List V → Hp → VK → Prop := fun xs H Q =>
  ∃ x d, xs = [x] ∧ Dp K H x d ∧ Oky d ∧ Nat.ble d.depth 60 = true ∧ Nat.ble (wt d) 30000 = true ∧ (∃ a, x = .ref a) ∧ Q (.str d.shown) H
theorem call_repr {X : Cx} (hg : X.A.guards = some []) (hu : X.A.units + 64 < cLine) : CallR X (.builtin "repr") (rReprO X.K) := by
  intro pins s σ H xs us Q I r h
  obtain ⟨x, d, e, hd, ho, h1, h2, hx, q⟩ := h
  have z := ho.all
  refine call_reprD hg hu pins s σ H xs us Q I r ⟨x, d, e, hd, z.1, z.2.1, Nat.le_of_ble_eq_true h1, ?_, hx, q⟩
  have w := PyData.shown_le 400 (by decide) d z.2.2
  have w2 := Nat.le_trans (wt_le ho) (Nat.le_of_ble_eq_true h2)
  have w3 : (400 + 2) * d.weight ≤ 402 * 30000 := Nat.mul_le_mul_left _ w2
  rw [sizeLine_eq]
  omega
end Own
namespace Own
open PySem PySem.Spec PyProof.Rows L2
/-! ### rules with the written part named (inside comprehensions) -/
section
variable {X : Cx} {K : PySem.W.Frag}
theorem kIxL (h : X.K = K := by rfl) : IxR X (rIxL K) := by
  subst h
  exact ix_list
theorem kIxT (h : X.K = K := by rfl) : IxR X (rIxT K) := by
  subst h
  exact ix_tup
theorem kIsi (h : X.K = K := by rfl) : CallR X (.builtin "isinstance") (rIsi K) := by
  subst h
  exact call_isi
theorem kLenSeq (h : X.K = K := by rfl) : CallR X (.builtin "len") (fun xs H Q => ∃ p ys, xs = [.ref p] ∧ (SqL K H p ys ∨ SqT K H p ys) ∧ Q (.int ys.length) H) := by
  subst h
  exact call_len_seq
end
end Own

/-! Texts of integers -/
namespace Own
open PySem PySem.Spec PyProof.Rows L2 TL
/-- the signs of an integer's text -/
def intL (i : Int) : List Nat := if i < 0 then 45 :: numL (0 - i).toNat else numL i.toNat
theorem tl_int (i : Int) : (Str.ofString (toString i)).cps.toList = intL i := by
  unfold intL
  split
  · rename_i h
    obtain ⟨n, hn⟩ := Int.eq_ofNat_of_zero_le (show 0 ≤ 0 - i by omega)
    rw [PyProof.Rows.toString_neg h, hn]
    have e : tl (Str.ofString (toString (n : Int))) = numL n := tl_num n
    rw [tl_ofString] at e
    have e2 : tl (Str.ofString ("-" ++ toString (n : Int))) = 45 :: numL n := by
      rw [tl_ofString, String.toList_append, List.map_append, e]
      rfl
    exact e2
  · rename_i h
    obtain ⟨n, hn⟩ := Int.eq_ofNat_of_zero_le (show 0 ≤ i by omega)
    rw [hn]
    exact tl_num n
theorem intL_inj {i j : Int} (h : intL i = intL j) : i = j := by
  have no : ∀ n m : Nat, (45 : Nat) :: numL n ≠ numL m := fun n m e => by
    have : 45 ∈ numL m := by rw [← e]; exact List.Mem.head _
    exact numL_free (.inl (by decide)) this
  unfold intL at h
  split at h
  · split at h
    · injection h with _ h
      have := numL_inj h
      omega
    · exact absurd h (no _ _)
  · split at h
    · exact absurd h.symm (no _ _)
    · have := numL_inj h
      omega
theorem toList_app (x y : Str) : (x ++ y).cps.toList = x.cps.toList ++ y.cps.toList := by
  show (x.cps ++ y.cps).toList = _
  simp
theorem u65 {k : Nat} {A : Around} (hr : Room k A) : A.units + 65 < cLine := by
  have := hr.un
  omega
end Own
namespace Own
open PySem PySem.Spec PyProof.Rows L2
/-! ### a list that a comprehension fills: D, beside what stands still -/
structure Build (M H : Hp) (D : Addr) (l : List V) (M' H' : Hp) : Prop where
  new : H D = none
  ex : Same M M'
  inn : Same M' H'
  off : M' D = none
  at_ : H' D = some (.lst l)
  out : ∀ b o, M b = none → H b = some o → M' b = none ∧ H' b = some o
section
variable {M H M' H' M1 H1 : Hp} {D : Addr} {l : List V}
theorem Build.start (hM : Same M H) (nD : H D = none) : Build M H D [] M (upd H D (.lst [])) := by
  refine ⟨nD, Same.refl M, ?_, hM.free nD, upd_same, ?_⟩
  · intro b o e
    exact same_new nD b o (hM b o e)
  · intro b o e1 e2
    exact ⟨e1, same_new nD b o e2⟩
theorem Build.grow (b : Build M H D l M' H') (g : Gr M' H' M1 H1) : Build M H D l M1 H1 := by
  have z := g.out D _ b.off b.at_
  refine ⟨b.new, b.ex.trans g.ex, g.inn, z.1, z.2, ?_⟩
  intro c o e1 e2
  have y := b.out c o e1 e2
  exact g.out c o y.1 y.2
theorem Build.push (b : Build M H D l M' H') (x : V) : Build M H D (l ++ [x]) M' (upd H' D (.lst (l ++ [x]))) := by
  refine ⟨b.new, b.ex, ?_, b.off, upd_same, ?_⟩
  · intro c o e
    rw [upd_ne (ne_of_none e b.off)]
    exact b.inn c o e
  · intro c o e1 e2
    have y := b.out c o e1 e2
    refine ⟨y.1, ?_⟩
    rw [upd_ne (ne_of_none e2 b.new)]
    exact y.2
theorem Build.done (b : Build M H D l M' H') : ∃ M2, Gr M H M2 H' ∧ M2 D = some (.lst l) ∧ Same M' M2 := by
  refine ⟨upd M' D (.lst l), ⟨b.ex.trans (same_new b.off), ?_, ?_⟩, upd_same, same_new b.off⟩
  · intro c o e
    by_cases h : c = D
    · subst h
      rw [upd_same] at e
      rw [← e]
      exact b.at_
    · rw [upd_ne h] at e
      exact b.inn c o e
  · intro c o e1 e2
    have y := b.out c o e1 e2
    refine ⟨?_, y.2⟩
    rw [upd_ne (ne_of_none e2 b.new)]
    exact y.1
end
end Own

namespace K33
open PySem PySem.Spec PyProof.Rows L2 Own
def topS (i : Nat) : Stmt := PySem.Challenge.pw_pressworlds_k33_whole_slides_alike_roots.main.body.getD i (.Pass ⟨0, 0, 0, 0⟩)
abbrev s_is_integer : Stmt := topS 8
theorem sc_is_integer : FnScope ["value"] ["value"] (defScope s_is_integer) :=
  ⟨rfl, rfl, rfl, by decide +kernel, rfl, by decide +kernel, by decide +kernel⟩
abbrev s_Slide_init : Stmt := inClass (topS 12) 0
theorem sc_Slide_init : FnScope ["self", "side", "shift"] ["self", "side", "shift"] (defScope s_Slide_init) :=
  ⟨rfl, rfl, rfl, by decide +kernel, rfl, by decide +kernel, by decide +kernel⟩
abbrev s_Slide_side : Stmt := inClass (topS 12) 2
theorem sc_Slide_side : FnScope ["self"] ["self"] (defScope s_Slide_side) :=
  ⟨rfl, rfl, rfl, by decide +kernel, rfl, by decide +kernel, by decide +kernel⟩
abbrev s_Slide_shift : Stmt := inClass (topS 12) 3
theorem sc_Slide_shift : FnScope ["self"] ["self"] (defScope s_Slide_shift) :=
  ⟨rfl, rfl, rfl, by decide +kernel, rfl, by decide +kernel, by decide +kernel⟩
abbrev s_Slide_str : Stmt := inClass (topS 12) 4
theorem sc_Slide_str : FnScope ["self", "sign"] ["self"] (defScope s_Slide_str) :=
  ⟨rfl, rfl, rfl, by decide +kernel, rfl, by decide +kernel, by decide +kernel⟩
abbrev s_Slide_eq : Stmt := inClass (topS 12) 5
theorem sc_Slide_eq : FnScope ["self", "other"] ["self", "other"] (defScope s_Slide_eq) :=
  ⟨rfl, rfl, rfl, by decide +kernel, rfl, by decide +kernel, by decide +kernel⟩
abbrev s_still_slide : Stmt := topS 13
theorem sc_still_slide : FnScope [] [] (defScope s_still_slide) :=
  ⟨rfl, rfl, rfl, by decide +kernel, rfl, by decide +kernel, by decide +kernel⟩
abbrev s_check_slide : Stmt := topS 15
theorem sc_check_slide : FnScope ["value"] ["value"] (defScope s_check_slide) :=
  ⟨rfl, rfl, rfl, by decide +kernel, rfl, by decide +kernel, by decide +kernel⟩
abbrev s_check_slides : Stmt := topS 16
theorem sc_check_slides : FnScope ["one", "other"] ["one", "other"] (defScope s_check_slides) :=
  ⟨rfl, rfl, rfl, by decide +kernel, rfl, by decide +kernel, by decide +kernel⟩
abbrev s_put_slides : Stmt := topS 17
theorem sc_put_slides : FnScope ["one", "other"] ["one", "other"] (defScope s_put_slides) :=
  ⟨rfl, rfl, rfl, by decide +kernel, rfl, by decide +kernel, by decide +kernel⟩
abbrev s_many_slides : Stmt := topS 18
theorem sc_many_slides : FnScope ["one", "times"] ["one", "times"] (defScope s_many_slides) :=
  ⟨rfl, rfl, rfl, by decide +kernel, rfl, by decide +kernel, by decide +kernel⟩
abbrev s_slide_link : Stmt := topS 19
theorem sc_slide_link : FnScope ["one", "other", "gap"] ["one", "other"] (defScope s_slide_link) :=
  ⟨rfl, rfl, rfl, by decide +kernel, rfl, by decide +kernel, by decide +kernel⟩
abbrev s_slide_often : Stmt := topS 20
theorem sc_slide_often : FnScope ["one", "times"] ["one", "times"] (defScope s_slide_often) :=
  ⟨rfl, rfl, rfl, by decide +kernel, rfl, by decide +kernel, by decide +kernel⟩
abbrev s_is_slide_alike : Stmt := topS 21
theorem sc_is_slide_alike : FnScope ["one", "other"] ["one", "other"] (defScope s_is_slide_alike) :=
  ⟨rfl, rfl, rfl, by decide +kernel, rfl, by decide +kernel, by decide +kernel⟩
abbrev s_slide_alike : Stmt := topS 22
theorem sc_slide_alike : FnScope ["one", "other"] ["one", "other"] (defScope s_slide_alike) :=
  ⟨rfl, rfl, rfl, by decide +kernel, rfl, by decide +kernel, by decide +kernel⟩
abbrev s_do_slides_commute : Stmt := topS 23
theorem sc_do_slides_commute : FnScope ["one", "other"] ["one", "other"] (defScope s_do_slides_commute) :=
  ⟨rfl, rfl, rfl, by decide +kernel, rfl, by decide +kernel, by decide +kernel⟩
abbrev s_slide_root : Stmt := topS 24
theorem sc_slide_root : FnScope ["one", "degree"] ["one", "degree"] (defScope s_slide_root) :=
  ⟨rfl, rfl, rfl, by decide +kernel, rfl, by decide +kernel, by decide +kernel⟩
abbrev s_l_vial : Stmt := topS 26
theorem sc_l_vial : FnScope ["_law_script", "_law_turn", "_law_mixed", "_law_cell", "_law_own"] ["_law_script", "_law_turn"] (defScope s_l_vial) :=
  ⟨rfl, rfl, rfl, by decide +kernel, rfl, by decide +kernel, by decide +kernel⟩
abbrev s_l_nip : Stmt := topS 27
theorem sc_l_nip : FnScope ["_law_vial_here", "_law_most", "_law_figure", "_law_mixed"] ["_law_vial_here", "_law_most"] (defScope s_l_nip) :=
  ⟨rfl, rfl, rfl, by decide +kernel, rfl, by decide +kernel, by decide +kernel⟩
abbrev s_l_opt : Stmt := topS 28
theorem sc_l_opt : FnScope ["_law_vial_here", "_law_menu"] ["_law_vial_here", "_law_menu"] (defScope s_l_opt) :=
  ⟨rfl, rfl, rfl, by decide +kernel, rfl, by decide +kernel, by decide +kernel⟩
abbrev s_l_pair : Stmt := topS 29
theorem sc_l_pair : FnScope ["_law_vial_here", "_law_far"] ["_law_vial_here"] (defScope s_l_pair) :=
  ⟨rfl, rfl, rfl, by decide +kernel, rfl, by decide +kernel, by decide +kernel⟩
abbrev s_l_then : Stmt := topS 30
theorem sc_l_then : FnScope ["_law_near", "_law_late"] ["_law_near", "_law_late"] (defScope s_l_then) :=
  ⟨rfl, rfl, rfl, by decide +kernel, rfl, by decide +kernel, by decide +kernel⟩
abbrev s_l_undone : Stmt := topS 31
theorem sc_l_undone : FnScope ["_law_near"] ["_law_near"] (defScope s_l_undone) :=
  ⟨rfl, rfl, rfl, by decide +kernel, rfl, by decide +kernel, by decide +kernel⟩
abbrev s_l_kept : Stmt := topS 32
theorem sc_l_kept : FnScope ["_law_mine"] ["_law_mine"] (defScope s_l_kept) :=
  ⟨rfl, rfl, rfl, by decide +kernel, rfl, by decide +kernel, by decide +kernel⟩
abbrev s_l_put : Stmt := topS 33
theorem sc_l_put : FnScope ["_law_how", "_law_near"] ["_law_how", "_law_near"] (defScope s_l_put) :=
  ⟨rfl, rfl, rfl, by decide +kernel, rfl, by decide +kernel, by decide +kernel⟩
abbrev s_l_is_like : Stmt := topS 34
theorem sc_l_is_like : FnScope ["_law_near", "_law_late", "_law_far"] ["_law_near", "_law_late"] (defScope s_l_is_like) :=
  ⟨rfl, rfl, rfl, by decide +kernel, rfl, by decide +kernel, by decide +kernel⟩
abbrev s_l_often : Stmt := topS 35
theorem sc_l_often : FnScope ["_law_near", "_law_many"] ["_law_near", "_law_many"] (defScope s_l_often) :=
  ⟨rfl, rfl, rfl, by decide +kernel, rfl, by decide +kernel, by decide +kernel⟩
abbrev s_l_has_root : Stmt := topS 36
theorem sc_l_has_root : FnScope ["_law_near", "_law_many", "_law_some", "_law_far", "_law_each"] ["_law_near", "_law_many"] (defScope s_l_has_root) :=
  ⟨rfl, rfl, rfl, by decide +kernel, rfl, by decide +kernel, by decide +kernel⟩
abbrev s_l_pair_right : Stmt := topS 37
theorem sc_l_pair_right : FnScope ["_law_near", "_law_late", "_law_mine", "_law_mate", "_law_due", "_law_how"] ["_law_near", "_law_late"] (defScope s_l_pair_right) :=
  ⟨rfl, rfl, rfl, by decide +kernel, rfl, by decide +kernel, by decide +kernel⟩
abbrev s_l_root_right : Stmt := topS 38
theorem sc_l_root_right : FnScope ["_law_near", "_law_many", "_law_mine", "_law_found"] ["_law_near", "_law_many"] (defScope s_l_root_right) :=
  ⟨rfl, rfl, rfl, by decide +kernel, rfl, by decide +kernel, by decide +kernel⟩
abbrev s_l_right : Stmt := topS 39
theorem sc_l_right : FnScope ["_law_vial_here", "_law_lap", "_law_near", "_law_late", "_law_how", "_law_like", "_law_pair_here", "_law_many", "_law_small", "_law_each", "_law_power"] ["_law_vial_here"] (defScope s_l_right) :=
  ⟨rfl, rfl, rfl, by decide +kernel, rfl, by decide +kernel, by decide +kernel⟩
abbrev s_law : Stmt := topS 40
theorem sc_law : FnScope ["_law_script", "_law_turn"] ["_law_script"] (defScope s_law) :=
  ⟨rfl, rfl, rfl, by decide +kernel, rfl, by decide +kernel, by decide +kernel⟩
structure Ad where
  f_is_integer : Addr
  d_is_integer : FuncData
  f_Slide_init : Addr
  d_Slide_init : FuncData
  f_Slide_side : Addr
  d_Slide_side : FuncData
  f_Slide_shift : Addr
  d_Slide_shift : FuncData
  f_Slide_str : Addr
  d_Slide_str : FuncData
  f_Slide_eq : Addr
  d_Slide_eq : FuncData
  f_still_slide : Addr
  d_still_slide : FuncData
  f_check_slide : Addr
  d_check_slide : FuncData
  f_check_slides : Addr
  d_check_slides : FuncData
  f_put_slides : Addr
  d_put_slides : FuncData
  f_many_slides : Addr
  d_many_slides : FuncData
  f_slide_link : Addr
  d_slide_link : FuncData
  f_slide_often : Addr
  d_slide_often : FuncData
  f_is_slide_alike : Addr
  d_is_slide_alike : FuncData
  f_slide_alike : Addr
  d_slide_alike : FuncData
  f_do_slides_commute : Addr
  d_do_slides_commute : FuncData
  f_slide_root : Addr
  d_slide_root : FuncData
  f_l_vial : Addr
  d_l_vial : FuncData
  f_l_nip : Addr
  d_l_nip : FuncData
  f_l_opt : Addr
  d_l_opt : FuncData
  f_l_pair : Addr
  d_l_pair : FuncData
  f_l_then : Addr
  d_l_then : FuncData
  f_l_undone : Addr
  d_l_undone : FuncData
  f_l_kept : Addr
  d_l_kept : FuncData
  f_l_put : Addr
  d_l_put : FuncData
  f_l_is_like : Addr
  d_l_is_like : FuncData
  f_l_often : Addr
  d_l_often : FuncData
  f_l_has_root : Addr
  d_l_has_root : FuncData
  f_l_pair_right : Addr
  d_l_pair_right : FuncData
  f_l_root_right : Addr
  d_l_root_right : FuncData
  f_l_right : Addr
  d_l_right : FuncData
  f_law : Addr
  d_law : FuncData
  C_Slide : Addr
  p_Slide_side : Addr
  p_Slide_shift : Addr
structure Txt (K : PySem.W.Frag) (mg : Str → Option Value) (a : Ad) : Prop where
  F_is_integer : Fun K "is_integer" "is_integer" s_is_integer a.f_is_integer a.d_is_integer
  b_is_integer : Binds K a.d_is_integer ["value"] []
  g_is_integer : mg "is_integer" = some (.ref a.f_is_integer)
  F_Slide_init : Fun K "__init__" "Slide.__init__" s_Slide_init a.f_Slide_init a.d_Slide_init
  b_Slide_init : Binds K a.d_Slide_init ["self", "side", "shift"] []
  F_Slide_side : Fun K "side" "Slide.side" s_Slide_side a.f_Slide_side a.d_Slide_side
  b_Slide_side : Binds K a.d_Slide_side ["self"] []
  F_Slide_shift : Fun K "shift" "Slide.shift" s_Slide_shift a.f_Slide_shift a.d_Slide_shift
  b_Slide_shift : Binds K a.d_Slide_shift ["self"] []
  F_Slide_str : Fun K "__str__" "Slide.__str__" s_Slide_str a.f_Slide_str a.d_Slide_str
  b_Slide_str : Binds K a.d_Slide_str ["self"] []
  F_Slide_eq : Fun K "__eq__" "Slide.__eq__" s_Slide_eq a.f_Slide_eq a.d_Slide_eq
  b_Slide_eq : Binds K a.d_Slide_eq ["self", "other"] []
  F_still_slide : Fun K "still_slide" "still_slide" s_still_slide a.f_still_slide a.d_still_slide
  b_still_slide : Binds K a.d_still_slide [] []
  g_still_slide : mg "still_slide" = some (.ref a.f_still_slide)
  F_check_slide : Fun K "check_slide" "check_slide" s_check_slide a.f_check_slide a.d_check_slide
  b_check_slide : Binds K a.d_check_slide ["value"] []
  g_check_slide : mg "check_slide" = some (.ref a.f_check_slide)
  F_check_slides : Fun K "check_slides" "check_slides" s_check_slides a.f_check_slides a.d_check_slides
  b_check_slides : Binds K a.d_check_slides ["one", "other"] []
  g_check_slides : mg "check_slides" = some (.ref a.f_check_slides)
  F_put_slides : Fun K "put_slides" "put_slides" s_put_slides a.f_put_slides a.d_put_slides
  b_put_slides : Binds K a.d_put_slides ["one", "other"] []
  g_put_slides : mg "put_slides" = some (.ref a.f_put_slides)
  F_many_slides : Fun K "many_slides" "many_slides" s_many_slides a.f_many_slides a.d_many_slides
  b_many_slides : Binds K a.d_many_slides ["one", "times"] []
  g_many_slides : mg "many_slides" = some (.ref a.f_many_slides)
  F_slide_link : Fun K "slide_link" "slide_link" s_slide_link a.f_slide_link a.d_slide_link
  b_slide_link : Binds K a.d_slide_link ["one", "other"] []
  g_slide_link : mg "slide_link" = some (.ref a.f_slide_link)
  F_slide_often : Fun K "slide_often" "slide_often" s_slide_often a.f_slide_often a.d_slide_often
  b_slide_often : Binds K a.d_slide_often ["one", "times"] []
  g_slide_often : mg "slide_often" = some (.ref a.f_slide_often)
  F_is_slide_alike : Fun K "is_slide_alike" "is_slide_alike" s_is_slide_alike a.f_is_slide_alike a.d_is_slide_alike
  b_is_slide_alike : Binds K a.d_is_slide_alike ["one", "other"] []
  g_is_slide_alike : mg "is_slide_alike" = some (.ref a.f_is_slide_alike)
  F_slide_alike : Fun K "slide_alike" "slide_alike" s_slide_alike a.f_slide_alike a.d_slide_alike
  b_slide_alike : Binds K a.d_slide_alike ["one", "other"] []
  g_slide_alike : mg "slide_alike" = some (.ref a.f_slide_alike)
  F_do_slides_commute : Fun K "do_slides_commute" "do_slides_commute" s_do_slides_commute a.f_do_slides_commute a.d_do_slides_commute
  b_do_slides_commute : Binds K a.d_do_slides_commute ["one", "other"] []
  g_do_slides_commute : mg "do_slides_commute" = some (.ref a.f_do_slides_commute)
  F_slide_root : Fun K "slide_root" "slide_root" s_slide_root a.f_slide_root a.d_slide_root
  b_slide_root : Binds K a.d_slide_root ["one", "degree"] []
  g_slide_root : mg "slide_root" = some (.ref a.f_slide_root)
  F_l_vial : Fun K "_law_vial" "_law_vial" s_l_vial a.f_l_vial a.d_l_vial
  b_l_vial : Binds K a.d_l_vial ["_law_script", "_law_turn"] []
  g_l_vial : mg "_law_vial" = some (.ref a.f_l_vial)
  F_l_nip : Fun K "_law_nip" "_law_nip" s_l_nip a.f_l_nip a.d_l_nip
  b_l_nip : Binds K a.d_l_nip ["_law_vial_here", "_law_most"] []
  g_l_nip : mg "_law_nip" = some (.ref a.f_l_nip)
  F_l_opt : Fun K "_law_opt" "_law_opt" s_l_opt a.f_l_opt a.d_l_opt
  b_l_opt : Binds K a.d_l_opt ["_law_vial_here", "_law_menu"] []
  g_l_opt : mg "_law_opt" = some (.ref a.f_l_opt)
  F_l_pair : Fun K "_law_pair" "_law_pair" s_l_pair a.f_l_pair a.d_l_pair
  b_l_pair : Binds K a.d_l_pair ["_law_vial_here"] []
  g_l_pair : mg "_law_pair" = some (.ref a.f_l_pair)
  F_l_then : Fun K "_law_then" "_law_then" s_l_then a.f_l_then a.d_l_then
  b_l_then : Binds K a.d_l_then ["_law_near", "_law_late"] []
  g_l_then : mg "_law_then" = some (.ref a.f_l_then)
  F_l_undone : Fun K "_law_undone" "_law_undone" s_l_undone a.f_l_undone a.d_l_undone
  b_l_undone : Binds K a.d_l_undone ["_law_near"] []
  g_l_undone : mg "_law_undone" = some (.ref a.f_l_undone)
  F_l_kept : Fun K "_law_kept" "_law_kept" s_l_kept a.f_l_kept a.d_l_kept
  b_l_kept : Binds K a.d_l_kept ["_law_mine"] []
  g_l_kept : mg "_law_kept" = some (.ref a.f_l_kept)
  F_l_put : Fun K "_law_put" "_law_put" s_l_put a.f_l_put a.d_l_put
  b_l_put : Binds K a.d_l_put ["_law_how", "_law_near"] []
  g_l_put : mg "_law_put" = some (.ref a.f_l_put)
  F_l_is_like : Fun K "_law_is_like" "_law_is_like" s_l_is_like a.f_l_is_like a.d_l_is_like
  b_l_is_like : Binds K a.d_l_is_like ["_law_near", "_law_late"] []
  g_l_is_like : mg "_law_is_like" = some (.ref a.f_l_is_like)
  F_l_often : Fun K "_law_often" "_law_often" s_l_often a.f_l_often a.d_l_often
  b_l_often : Binds K a.d_l_often ["_law_near", "_law_many"] []
  g_l_often : mg "_law_often" = some (.ref a.f_l_often)
  F_l_has_root : Fun K "_law_has_root" "_law_has_root" s_l_has_root a.f_l_has_root a.d_l_has_root
  b_l_has_root : Binds K a.d_l_has_root ["_law_near", "_law_many"] []
  g_l_has_root : mg "_law_has_root" = some (.ref a.f_l_has_root)
  F_l_pair_right : Fun K "_law_pair_right" "_law_pair_right" s_l_pair_right a.f_l_pair_right a.d_l_pair_right
  b_l_pair_right : Binds K a.d_l_pair_right ["_law_near", "_law_late"] []
  g_l_pair_right : mg "_law_pair_right" = some (.ref a.f_l_pair_right)
  F_l_root_right : Fun K "_law_root_right" "_law_root_right" s_l_root_right a.f_l_root_right a.d_l_root_right
  b_l_root_right : Binds K a.d_l_root_right ["_law_near", "_law_many"] []
  g_l_root_right : mg "_law_root_right" = some (.ref a.f_l_root_right)
  F_l_right : Fun K "_law_right" "_law_right" s_l_right a.f_l_right a.d_l_right
  b_l_right : Binds K a.d_l_right ["_law_vial_here"] []
  g_l_right : mg "_law_right" = some (.ref a.f_l_right)
  F_law : Fun K "law" "law" s_law a.f_law a.d_law
  b_law : Binds K a.d_law ["_law_script"] []
  g_law : mg "law" = some (.ref a.f_law)
  k_is_slide_alike : KBinds K a.d_is_slide_alike ["one", "other"] ["other", "one"] gRev gRev
  k_slide_alike : KBinds K a.d_slide_alike ["one", "other"] ["other", "one"] gRev gRev
  k_do_slides_commute : KBinds K a.d_do_slides_commute ["one", "other"] ["other", "one"] gRev gRev
  k_slide_root : KBinds K a.d_slide_root ["one", "degree"] ["degree", "one"] gRev gRev
  g_Slide : mg "Slide" = some (.ref a.C_Slide)
  o_Slide : OwnC K a.C_Slide
  m_Slide : Mk K a.C_Slide a.f_Slide_init
  n_Slide_own_side : NoAttr K a.C_Slide "own_side"
  n_Slide_own_shift : NoAttr K a.C_Slide "own_shift"
  p_Slide_side : PropOf K a.C_Slide "side" a.p_Slide_side a.f_Slide_side
  p_Slide_shift : PropOf K a.C_Slide "shift" a.p_Slide_shift a.f_Slide_shift
  s_Slide : PySem.W.findIn K (.ref a.C_Slide) "__str__" = some (some (.ref a.f_Slide_str))
  sf_Slide : PySem.W.isFn K (.ref a.f_Slide_str) = true
  e_Slide : EqC K a.C_Slide a.f_Slide_eq
  z_abs : mg "abs" = none
  z_all : mg "all" = none
  z_bool : mg "bool" = none
  z_divmod : mg "divmod" = none
  z_int : mg "int" = none
  z_isinstance : mg "isinstance" = none
  z_len : mg "len" = none
  z_max : mg "max" = none
  z_range : mg "range" = none
  z_repr : mg "repr" = none
  z_str : mg "str" = none

end K33

namespace K33
open PySem PySem.Spec PyProof.Rows L2 Own
section
variable {P : Program} {w : World} {K : PySem.W.Frag} {mg : Str → Option Value} {base : Heap} {a : Ad}
/-! ### slides as pairs of numbers -/
abbrev S2 := Int × Int
def thenS (x y : S2) : S2 := (x.1 * y.1, x.2 + x.1 * y.2)
def undS (x : S2) : S2 := (x.1, 0 - x.1 * x.2)
def oftS (x : S2) (t : Int) : S2 := if 0 < x.1 then (1, x.2 * t) else if t % 2 = 1 then x else (1, 0)
def UnitS (x : S2) : Prop := x.1 = 1 ∨ x.1 = -1
def signT (x : S2) : Str := if 0 < x.1 then "+" else "-"
def slText (x : S2) : Str := (((Str.empty ++ ("ruler " : Str)) ++ signT x) ++ (" " : Str)) ++ (toString x.2 : String)
theorem unit_then {x y : S2} (hx : UnitS x) (hy : UnitS y) : UnitS (thenS x y) := by
  obtain ⟨s, n⟩ := x
  obtain ⟨t, m⟩ := y
  rcases hx with h | h <;> rcases hy with k | k <;> simp only at h k <;> subst h <;> subst k <;> simp [UnitS, thenS]
theorem unit_oft {x : S2} (hx : UnitS x) (t : Int) : UnitS (oftS x t) := by
  unfold oftS
  split
  · exact .inl rfl
  · split
    · exact hx
    · exact .inl rfl
theorem side_mul {s j : Int} (h : s = 1 ∨ s = -1) : CMul s j := .inl (by rcases h with rfl | rfl <;> decide)
/-- a slide stands at x -/
def Sl (C : Addr) (M : Hp) (x : V) (s : S2) : Prop := ∃ p dx, x = .ref p ∧ M p = some (.ins C dx [("own_side", .int s.1), ("own_shift", .int s.2)]) ∧ UnitS s
theorem Sl.mono {C : Addr} {M M1 : Hp} {x : V} {s : S2} (h : Sl C M x s) (e : Same M M1) : Sl C M1 x s := by
  obtain ⟨p, dx, r, h, z⟩ := h
  exact ⟨p, dx, r, e _ _ h, z⟩
theorem Sl.unit {C : Addr} {M : Hp} {x : V} {s : S2} (h : Sl C M x s) : UnitS s := by
  obtain ⟨p, dx, r, h, z⟩ := h
  exact z
/-- is_integer, of an int -/
def spIsInt : Sp := sp1 fun x H Q => ∃ i, x = .int i ∧ Q (.bl true) H
theorem ok_is_integer (T : Txt K mg a) : FnOk P w K mg base CX0 1 a.f_is_integer a.d_is_integer ["value"] spIsInt := by
  refine T.F_is_integer.ok sc_is_integer (len1 rfl) (fun cdv A outer s H vs Q E hr h => ?_)
  obtain ⟨x, rfl, i, rfl, q⟩ := h
  refine ⟨_, (pss_one (ps_ret (pe_and (pe_callB call_isi (by rfl) T.z_isinstance (by decide +kernel) (pa_cons (pv 0) (pa_cons (pe_bltn (v := .ty "int") (by rfl) T.z_int (by decide +kernel) rfl) pa_nil))) (pe_one (pe_not (pe_callB call_isi (by rfl) T.z_isinstance (by decide +kernel) (pa_cons (pv 0) (pa_cons (pe_bltn (v := .ty "bool") (by rfl) T.z_bool (by decide +kernel) rfl) pa_nil)))))))), ?_⟩
  refine ⟨_, rfl, _, _, _, _, true, rfl, .ty _, i_int i, kit_ty (by decide +kernel), true, rfl, iteT ?_⟩
  exact ⟨_, rfl, _, _, _, _, false, rfl, .ty _, i_int i, kit_ty (by decide +kernel), false, rfl, q⟩
/-- Slide.__init__, of a side and a shift -/
def spSlideInit (C : Addr) : Sp := sp3 fun x y z H Q => ∃ p dx, ∃ s : S2, x = .ref p ∧ y = .int s.1 ∧ z = .int s.2 ∧ UnitS s ∧ H p = some (.ins C dx []) ∧
  Q .non (upd H p (.ins C dx [("own_side", .int s.1), ("own_shift", .int s.2)]))
theorem ok_Slide_init (T : Txt K mg a) : FnOk P w K mg base CX0 2 a.f_Slide_init a.d_Slide_init ["self", "side", "shift"] (spSlideInit a.C_Slide) := by
  refine T.F_Slide_init.ok sc_Slide_init (len3 rfl) (fun cdv A outer s H vs Q E hr h => ?_)
  obtain ⟨_, _, _, rfl, p, dx, ⟨s, n⟩, rfl, rfl, rfl, hs, hp, q⟩ := h
  refine ⟨_, (pss_cons (ps_if (PW.pt (pw_or (pt_not (pt_val (pe_call (ok_is_integer T) (hr.mono (by decide)) (by rfl) T.g_is_integer T.F_is_integer.kp T.b_is_integer .nil pass0 (pa_cons (pv 1) pa_nil)))) (pw_or1 (pt_cmpR op_ne (pe_callB call_abs (by rfl) T.z_abs (by decide +kernel) (pa_cons (pv 1) pa_nil)) pe_int (nomark _)))))
      (pss_one ps_never) pss_nil)
      (pss_cons (ps_if (pt_not (pt_val (pe_call (ok_is_integer T) (hr.mono (by decide)) (by rfl) T.g_is_integer T.F_is_integer.kp T.b_is_integer .nil pass0 (pa_cons (pv 2) pa_nil))))
      (pss_one ps_never) pss_nil)
      (pss_cons (ps_fld (pv 0) (pv 1) rfl)
      (pss_one (ps_fld (pv 0) (pv 2) rfl))))), ?_⟩
  have e1 : (if s < 0 then -s else s) = 1 := by
    rcases hs with z | z <;> simp only at z <;> subst z <;> rfl
  refine ⟨_, rfl, _, rfl, _, rfl, true, rfl, iteF ?_⟩
  refine ⟨_, rfl, _, rfl, ?_⟩
  rw [e1]
  refine ⟨rfl, false, rfl, iteF ?_⟩
  refine ⟨_, rfl, _, rfl, _, rfl, true, rfl, iteF ?_⟩
  refine ⟨_, rfl, _, rfl, p, _, dx, _, rfl, hp, T.o_Slide.cl, T.n_Slide_own_side, by decide, ?_⟩
  refine ⟨_, rfl, _, rfl, p, _, dx, _, rfl, upd_same, T.o_Slide.cl, T.n_Slide_own_shift, (by show (1 : Nat) < 1000; decide), ?_⟩
  rw [upd_upd]
  exact q
/-- a slide is made -/
theorem mk_slide {C : Addr} {M H : Hp} {s : S2} {Q : VK} {E : XK} (hs : UnitS s) (hM : Same M H) (q : ∀ r M' H', Gr M H M' H' → Sl C M' r s → Q r H') :
    ∀ x dx, H x = none → H dx = none → dx ≠ x → spSlideInit C (.ref x :: ([.int s.1, .int s.2] ++ [])) (upd (upd H dx (.own x)) x (.ins C dx [])) (fun v H2 => v = .non ∧ Q (.ref x) H2) E := by
  intro x dx hx hd ne
  refine ⟨_, _, _, rfl, x, dx, s, rfl, rfl, rfl, hs, upd_same, rfl, ?_⟩
  rw [upd_upd]
  exact q _ _ _ (gr_ins hM hx hd ne) ⟨x, dx, rfl, upd_same, hs⟩
/-- the properties -/
def spSide (C : Addr) : Sp := sp1 fun x H Q => ∃ s, Sl C H x s ∧ Q (.int s.1) H
def spShift (C : Addr) : Sp := sp1 fun x H Q => ∃ s, Sl C H x s ∧ Q (.int s.2) H
theorem ok_Slide_side (T : Txt K mg a) : FnOk P w K mg base CX0 1 a.f_Slide_side a.d_Slide_side ["self"] (spSide a.C_Slide) := by
  refine T.F_Slide_side.ok sc_Slide_side (len1 rfl) (fun cdv A outer s H vs Q E hr h => ?_)
  obtain ⟨_, rfl, s, ⟨p, dx, rfl, hp, _⟩, q⟩ := h
  exact ⟨_, (pss_one (ps_ret (pe_fld (pv 0) rfl))), ⟨_, rfl, p, _, dx, _, _, rfl, hp, T.o_Slide.cl, T.n_Slide_own_side, rfl, q⟩⟩
theorem ok_Slide_shift (T : Txt K mg a) : FnOk P w K mg base CX0 1 a.f_Slide_shift a.d_Slide_shift ["self"] (spShift a.C_Slide) := by
  refine T.F_Slide_shift.ok sc_Slide_shift (len1 rfl) (fun cdv A outer s H vs Q E hr h => ?_)
  obtain ⟨_, rfl, s, ⟨p, dx, rfl, hp, _⟩, q⟩ := h
  exact ⟨_, (pss_one (ps_ret (pe_fld (pv 0) rfl))), ⟨_, rfl, p, _, dx, _, _, rfl, hp, T.o_Slide.cl, T.n_Slide_own_shift, rfl, q⟩⟩
theorem rd_side {C : Addr} {H : Hp} {x : V} {s : S2} {Q : VK} {E : XK} (h : Sl C H x s) (q : Q (.int s.1) H) :
    ∃ p dx fs, x = .ref p ∧ H p = some (.ins C dx fs) ∧ spSide C (.ref p :: []) H Q E := by
  obtain ⟨p, dx, rfl, hp, hs⟩ := h
  exact ⟨p, dx, _, rfl, hp, _, rfl, s, ⟨p, dx, rfl, hp, hs⟩, q⟩
theorem rd_shift {C : Addr} {H : Hp} {x : V} {s : S2} {Q : VK} {E : XK} (h : Sl C H x s) (q : Q (.int s.2) H) :
    ∃ p dx fs, x = .ref p ∧ H p = some (.ins C dx fs) ∧ spShift C (.ref p :: []) H Q E := by
  obtain ⟨p, dx, rfl, hp, hs⟩ := h
  exact ⟨p, dx, _, rfl, hp, _, rfl, s, ⟨p, dx, rfl, hp, hs⟩, q⟩
/-- the text -/
def spSlideStr (C : Addr) : Sp := sp1 fun x H Q => ∃ s, Sl C H x s ∧ s.2.natAbs < 10 ^ 300 ∧ Q (.str (slText s)) H
theorem txt_len {i : Int} (h : i.natAbs < 10 ^ 300) : (Str.ofString (toString i)).length ≤ 301 := by
  rw [PySem.ofString_length]
  exact int_text_length_le10 (by decide) h
theorem ok_Slide_str (T : Txt K mg a) : FnOk P w K mg base CX0 1 a.f_Slide_str a.d_Slide_str ["self"] (spSlideStr a.C_Slide) := by
  refine T.F_Slide_str.ok sc_Slide_str (len1 rfl) (fun cdv A outer s H vs Q E hr h => ?_)
  obtain ⟨_, rfl, s, ⟨p, dx, rfl, hp, hs⟩, hb, q⟩ := h
  refine ⟨_, (pss_cons (ps_set (i := 1) sc_Slide_str.nd rfl (.inl rfl) (pe_ifExp (pt_cmpR op_gt (pe_fld (pv 0) rfl) pe_int (nomark _)) pe_str pe_str))
      (pss_one (ps_ret (pe_joined (.cons pe_str (.cons (pe_fmt (pv 1)) (.cons pe_str (.cons (pe_fmt (pe_fld (pv 0) rfl)) .nil)))))))), ?_⟩
  have sg : ∀ z : Str, z.length = 1 → ∀ (Q' : Str → Hp → Prop), Q' ((((Str.empty ++ ("ruler " : Str)) ++ z) ++ (" " : Str)) ++ (toString s.2 : String)) H →
      (((Str.empty ++ ("ruler " : Str)) ++ z).length ≤ sizeLine) ∧ ((((Str.empty ++ ("ruler " : Str)) ++ z) ++ (" " : Str)).length ≤ sizeLine) ∧
      ((((Str.empty ++ ("ruler " : Str)) ++ z) ++ (" " : Str)) ++ (toString s.2 : String)).length ≤ sizeLine := by
    intro z hz Q' _
    have l1 := txt_len hb
    have l0 : Str.empty.length = 0 := by decide
    have l3 : ("ruler " : Str).length = 6 := by decide
    have l2 : (" " : Str).length = 1 := by decide
    simp only [strLen_append, l0, l2, l3, hz, sizeLine_eq]
    omega
  refine ⟨_, rfl, p, _, dx, _, _, rfl, hp, T.o_Slide.cl, T.n_Slide_own_side, rfl, _, _, rfl, rfl, _, rfl, ?_⟩
  have fin : ∀ z : Str, z.length = 1 → z = signT s → ∀ σ : L2.St, σ[0]? = some (some (.ref p)) → σ[1]? = some (some (.str z)) →
      tJs [tC (.str ("ruler " : Str)), tFmt (tVar 1), tC (.str (" " : Str)), tFmt (tFld K (tVar 0) "own_shift")] Str.empty σ H fun out H1 => Q (.str out) H1 := by
    intro z hz ez σ h0 h1
    obtain ⟨a1, a2, a3⟩ := sg z hz (fun _ _ => True) trivial
    refine ⟨_, rfl, by decide, _, h1, .inl ⟨z, rfl, by rw [hz]; decide, _, rfl, a1, _, rfl, a2, _, h0, p, _, dx, _, _, rfl, hp, T.o_Slide.cl, T.n_Slide_own_shift, rfl, .inr ⟨s.2, rfl, log_lt hb, _, rfl, a3, ?_⟩⟩⟩
    subst ez
    exact q
  refine ite2 (fun e => ?_) (fun e => ?_)
  · have e' : 0 < s.1 := of_decide_eq_true e
    exact fin "+" (by decide) (by unfold signT; rw [if_pos e']) _ rfl rfl
  · have e' : ¬ 0 < s.1 := fun z => e (decide_eq_true z)
    exact fin "-" (by decide) (by unfold signT; rw [if_neg e']) _ rfl rfl
end

end K33

namespace K33
open PySem PySem.Spec PyProof.Rows L2 Own
section
variable {P : Program} {w : World} {K : PySem.W.Frag} {mg : Str → Option Value} {base : Heap} {a : Ad}
/-- == of two slides -/
def spSlideEq (C : Addr) : Sp := sp2 fun x y H Q => ∃ s t, Sl C H x s ∧ Sl C H y t ∧ s.2.natAbs < 10 ^ 300 ∧ t.2.natAbs < 10 ^ 300 ∧ Q (.bl (decide (V.str (slText s) = V.str (slText t)))) H
theorem ok_Slide_eq (T : Txt K mg a) : FnOk P w K mg base CX0 4 a.f_Slide_eq a.d_Slide_eq ["self", "other"] (spSlideEq a.C_Slide) := by
  refine T.F_Slide_eq.ok sc_Slide_eq (len2 rfl) (fun cdv A outer s H vs Q E hr h => ?_)
  obtain ⟨_, _, rfl, s, t, ⟨p, dx, rfl, hp, hs⟩, ⟨p2, dx2, rfl, hp2, hs2⟩, hb, hb2, q⟩ := h
  refine ⟨_, (pss_one (ps_ret (pe_and (pe_callB call_isi (by rfl) T.z_isinstance (by decide +kernel) (pa_cons (pv 1) (pa_cons (pe_glob (v := .ref a.C_Slide) (by rfl) T.g_Slide rfl) pa_nil))) (pe_one (pe_cmpR op_eq (pe_callTy (call_strOwn T.s_Slide T.sf_Slide (ok_Slide_str T) (hr.mono (by decide)) T.b_Slide_str pass0) (by rfl) T.z_str (by decide +kernel) (pa_cons (pv 0) pa_nil)) (pe_callTy (call_strOwn T.s_Slide T.sf_Slide (ok_Slide_str T) (hr.mono (by decide)) T.b_Slide_str pass0) (by rfl) T.z_str (by decide +kernel) (pa_cons (pv 1) pa_nil)) (nomark _)))))), ?_⟩
  refine ⟨_, rfl, _, _, _, _, true, rfl, .own _, T.o_Slide.ty hp2, kit_self, true, rfl, iteT ?_⟩
  refine ⟨_, rfl, p, dx, _, rfl, hp, _, rfl, s, ⟨p, dx, rfl, hp, hs⟩, hb, ⟨_, rfl⟩, ?_⟩
  exact ⟨_, rfl, p2, dx2, _, rfl, hp2, _, rfl, t, ⟨p2, dx2, rfl, hp2, hs2⟩, hb2, ⟨_, rfl⟩, rfl, q⟩
/-- still_slide() -/
def spStill (C : Addr) : Sp := sp0 fun H Q => ∃ M, Same M H ∧ ∀ r M' H', Gr M H M' H' → Sl C M' r (1, 0) → Q r H'
theorem ok_still_slide (T : Txt K mg a) : FnOk P w K mg base CX0 4 a.f_still_slide a.d_still_slide [] (spStill a.C_Slide) := by
  refine T.F_still_slide.ok sc_still_slide (len0 rfl) (fun cdv A outer s H vs Q E hr h => ?_)
  obtain ⟨rfl, M, hM, q⟩ := h
  exact ⟨_, (pss_one (ps_ret (pe_make T.m_Slide (ok_Slide_init T) (hr.mono (by decide)) (by rfl) T.g_Slide T.b_Slide_init .nil pass0 (pa_cons pe_int (pa_cons pe_int pa_nil))))), mk_slide (s := (1, 0)) (.inl rfl) hM q⟩
/-- check_slide, check_slides -/
def spCheck (C : Addr) : Sp := sp1 fun x H Q => ∃ s, Sl C H x s ∧ Q .non H
theorem ok_check_slide (T : Txt K mg a) : FnOk P w K mg base CX0 1 a.f_check_slide a.d_check_slide ["value"] (spCheck a.C_Slide) := by
  refine T.F_check_slide.ok sc_check_slide (len1 rfl) (fun cdv A outer s H vs Q E hr h => ?_)
  obtain ⟨_, rfl, s, ⟨p, dx, rfl, hp, hs⟩, q⟩ := h
  exact ⟨_, (pss_one (ps_if (pt_not (pt_val (pe_callB call_isi (by rfl) T.z_isinstance (by decide +kernel) (pa_cons (pv 0) (pa_cons (pe_glob (v := .ref a.C_Slide) (by rfl) T.g_Slide rfl) pa_nil)))))
      (pss_one ps_never) pss_nil)), _, rfl, _, _, _, _, true, rfl, .own _, T.o_Slide.ty hp, kit_self, true, rfl, iteF q⟩
def spChecks (C : Addr) : Sp := sp2 fun x y H Q => ∃ s t, Sl C H x s ∧ Sl C H y t ∧ Q .non H
theorem ok_check_slides (T : Txt K mg a) : FnOk P w K mg base CX0 2 a.f_check_slides a.d_check_slides ["one", "other"] (spChecks a.C_Slide) := by
  refine T.F_check_slides.ok sc_check_slides (len2 rfl) (fun cdv A outer s H vs Q E hr h => ?_)
  obtain ⟨_, _, rfl, s, t, h1, h2, q⟩ := h
  exact ⟨_, (pss_cons (ps_expr (pe_call (ok_check_slide T) (hr.mono (by decide)) (by rfl) T.g_check_slide T.F_check_slide.kp T.b_check_slide .nil pass0 (pa_cons (pv 0) pa_nil)))
      (pss_one (ps_expr (pe_call (ok_check_slide T) (hr.mono (by decide)) (by rfl) T.g_check_slide T.F_check_slide.kp T.b_check_slide .nil pass0 (pa_cons (pv 1) pa_nil))))), _, rfl, _, rfl, s, h1, _, rfl, _, rfl, t, h2, q⟩
/-- put_slides, back_slide, many_slides -/
def New1 (C : Addr) (M H : Hp) (s : S2) (Q : VK) : Prop := ∀ r M' H', Gr M H M' H' → Sl C M' r s → Q r H'
def spPut (C : Addr) : Sp := sp2 fun x y H Q => ∃ M s t, Same M H ∧ Sl C M x s ∧ Sl C M y t ∧ New1 C M H (thenS s t) Q
theorem ok_put_slides (T : Txt K mg a) : FnOk P w K mg base CX0 4 a.f_put_slides a.d_put_slides ["one", "other"] (spPut a.C_Slide) := by
  refine T.F_put_slides.ok sc_put_slides (len2 rfl) (fun cdv A outer s H vs Q E hr h => ?_)
  obtain ⟨_, _, rfl, M, s, t, hM, h1, h2, q⟩ := h
  have k1 := h1.mono hM
  have k2 := h2.mono hM
  have m1 : ∀ j, CMul s.1 j := fun j => side_mul h1.unit
  refine ⟨_, (pss_one (ps_ret (pe_make T.m_Slide (ok_Slide_init T) (hr.mono (by decide)) (by rfl) T.g_Slide T.b_Slide_init .nil pass0 (pa_cons (pe_op op_mul (pe_prop (pv 0) T.o_Slide.cl T.p_Slide_side (ok_Slide_side T) (hr.mono (by decide)) T.b_Slide_side .nil pass0 rfl) (pe_prop (pv 1) T.o_Slide.cl T.p_Slide_side (ok_Slide_side T) (hr.mono (by decide)) T.b_Slide_side .nil pass0 rfl)) (pa_cons (pe_op op_add (pe_prop (pv 0) T.o_Slide.cl T.p_Slide_shift (ok_Slide_shift T) (hr.mono (by decide)) T.b_Slide_shift .nil pass0 rfl) (pe_op op_mul (pe_prop (pv 0) T.o_Slide.cl T.p_Slide_side (ok_Slide_side T) (hr.mono (by decide)) T.b_Slide_side .nil pass0 rfl) (pe_prop (pv 1) T.o_Slide.cl T.p_Slide_shift (ok_Slide_shift T) (hr.mono (by decide)) T.b_Slide_shift .nil pass0 rfl))) pa_nil))))), ?_⟩
  refine ⟨_, rfl, rd_side k1 ⟨_, rfl, rd_side k2 ⟨_, _, rfl, rfl, m1 _, ?_⟩⟩⟩
  refine ⟨_, rfl, rd_shift k1 ⟨_, rfl, rd_side k1 ⟨_, rfl, rd_shift k2 ⟨_, _, rfl, rfl, m1 _, _, _, rfl, rfl, ?_⟩⟩⟩⟩
  exact mk_slide (s := thenS s t) (unit_then h1.unit h2.unit) hM q
def spBack (C : Addr) : Sp := sp1 fun x H Q => ∃ M s, Same M H ∧ Sl C M x s ∧ New1 C M H (undS s) Q
theorem big_mul {i j : Int} (hi : i.natAbs < 10 ^ 100) (hj : j.natAbs < 10 ^ 100) : CMulW i j :=
  wide_mul (a := 400) (b := 400) (Nat.lt_trans hi (by decide +kernel)) (Nat.lt_trans hj (by decide +kernel)) (by decide) (by decide) (by decide)
def spMany (C : Addr) : Sp := sp2 fun x y H Q => ∃ M s t, Same M H ∧ Sl C M x s ∧ y = .int t ∧ s.2.natAbs < 10 ^ 100 ∧ t.natAbs < 10 ^ 100 ∧ New1 C M H (oftS s t) Q
theorem ok_many_slides (T : Txt K mg a) : FnOk P w K mg base CX0 5 a.f_many_slides a.d_many_slides ["one", "times"] (spMany a.C_Slide) := by
  refine T.F_many_slides.ok sc_many_slides (len2 rfl) (fun cdv A outer s H vs Q E hr h => ?_)
  obtain ⟨_, _, rfl, M, s, t, hM, h1, rfl, hb, hb2, q⟩ := h
  have k1 := h1.mono hM
  refine ⟨_, (pss_cons (ps_if (pt_cmpR op_gt (pe_prop (pv 0) T.o_Slide.cl T.p_Slide_side (ok_Slide_side T) (hr.mono (by decide)) T.b_Slide_side .nil pass0 rfl) pe_int (nomark _))
      (pss_one (ps_ret (pe_make T.m_Slide (ok_Slide_init T) (hr.mono (by decide)) (by rfl) T.g_Slide T.b_Slide_init .nil pass0 (pa_cons pe_int (pa_cons (pe_op op_mulW (pe_prop (pv 0) T.o_Slide.cl T.p_Slide_shift (ok_Slide_shift T) (hr.mono (by decide)) T.b_Slide_shift .nil pass0 rfl) (pv 1)) pa_nil))))) pss_nil)
      (pss_one (ps_ret (pe_ifExp (pt_cmpR op_eq (pe_op op_mod (pv 1) pe_int) pe_int (nomark _)) (pv 0) (pe_call0 (ok_still_slide T) (hr.mono (by decide)) (by rfl) T.g_still_slide T.F_still_slide.kp T.b_still_slide .nil pass0))))), ?_⟩
  refine ⟨_, rfl, rd_side k1 ⟨_, _, rfl, rfl, _, rfl, ite2 (fun e => ?_) (fun e => ?_)⟩⟩
  · have e' : 0 < s.1 := of_decide_eq_true e
    refine ⟨_, rfl, rd_shift k1 ⟨_, rfl, _, _, rfl, rfl, big_mul hb hb2, ?_⟩⟩
    refine mk_slide (s := (1, s.2 * t)) (.inl rfl) hM ?_
    have z : oftS s t = (1, s.2 * t) := by unfold oftS; rw [if_pos e']
    rw [← z]
    exact q
  · have e' : ¬ 0 < s.1 := fun z => e (decide_eq_true z)
    refine ⟨_, rfl, _, _, rfl, rfl, (by show (0 : Int) < 2; decide), rfl, _, rfl, ite2 (fun e2 => ?_) (fun e2 => ?_)⟩
    · have e3 : t % 2 = 1 := V.int.inj (of_decide_eq_true e2)
      have z : oftS s t = s := by unfold oftS; rw [if_neg e', if_pos e3]
      exact ⟨_, rfl, q _ M H (Gr.refl hM) (by rw [z]; exact h1)⟩
    · have e3 : ¬ t % 2 = 1 := fun z => e2 (decide_eq_true (congrArg V.int z))
      have z : oftS s t = (1, 0) := by unfold oftS; rw [if_neg e', if_neg e3]
      refine ⟨rfl, M, hM, ?_⟩
      rw [← z]
      exact q
/-- the functions of the interface -/
theorem ok_slide_often (T : Txt K mg a) : FnOk P w K mg base CX0 6 a.f_slide_often a.d_slide_often ["one", "times"] (spMany a.C_Slide) := by
  refine T.F_slide_often.ok sc_slide_often (len2 rfl) (fun cdv A outer s H vs Q E hr h => ?_)
  obtain ⟨_, _, rfl, M, s, t, hM, h1, rfl, hb, hb2, q⟩ := h
  exact ⟨_, (pss_cons (ps_expr (pe_call (ok_check_slide T) (hr.mono (by decide)) (by rfl) T.g_check_slide T.F_check_slide.kp T.b_check_slide .nil pass0 (pa_cons (pv 0) pa_nil)))
      (pss_cons (ps_if (pt_not (pt_val (pe_call (ok_is_integer T) (hr.mono (by decide)) (by rfl) T.g_is_integer T.F_is_integer.kp T.b_is_integer .nil pass0 (pa_cons (pv 1) pa_nil))))
      (pss_one ps_never) pss_nil)
      (pss_one (ps_ret (pe_call (ok_many_slides T) (hr.mono (by decide)) (by rfl) T.g_many_slides T.F_many_slides.kp T.b_many_slides .nil pass0 (pa_cons (pv 0) (pa_cons (pv 1) pa_nil))))))), _, rfl, _, rfl, s, h1.mono hM, _, rfl, _, rfl, t, rfl, _, rfl, iteF ⟨_, rfl, _, rfl, _, _, rfl, M, s, t, hM, h1, rfl, hb, hb2, q⟩⟩
def ordV (s : S2) : V := if s.1 < 0 then .int 2 else if s.2 = 0 then .int 1 else .non
def spOrder (C : Addr) : Sp := sp1 fun x H Q => ∃ s, Sl C H x s ∧ Q (ordV s) H
def gapS (s t : S2) : S2 := thenS (thenS s t) (thenS (undS s) (undS t))
def spGap (C : Addr) : Sp := sp2 fun x y H Q => ∃ M s t, Same M H ∧ Sl C M x s ∧ Sl C M y t ∧ New1 C M H (gapS s t) Q
def spAt (C : Addr) : Sp := sp2 fun x y H Q => ∃ s m, Sl C H x s ∧ y = .int m ∧ Q (.int (s.2 + s.1 * m)) H
end

end K33

namespace K33
open PySem PySem.Spec PyProof.Rows L2 Own
section
variable {P : Program} {w : World} {K : PySem.W.Frag} {mg : Str → Option Value} {base : Heap} {a : Ad}
theorem vl_set {v : Addr} {n : Nat} {M H : Hp} {x y z : Int} (hi : Same M H) (ho : M v = none) (hx : 0 ≤ x) (hz : 0 ≤ z) (hn : z ≤ n) :
    Vl v n M (upd H v (.lst [.int x, .int y, .int z])) := by
  refine ⟨fun b o e => ?_, ho, x, y, z, upd_same, hx, hz, hn⟩
  have hb : b ≠ v := ne_of_none e ho
  rw [upd_ne hb]
  exact hi b o e
/-- a number from 0 to one less than most is drawn -/
def spNip : Sp := sp2 fun x y H Q => ∃ v n M m, x = .ref v ∧ y = .int m ∧ Vl v n M H ∧ n < 1000000 ∧ 0 < m ∧ m < 1000000000 ∧
  ∀ r H', 0 ≤ r → r < m → Vl v (n + 1) M H' → Q (.int r) H'
theorem ok_l_nip (T : Txt K mg a) : FnOk P w K mg base CX0 1 a.f_l_nip a.d_l_nip ["_law_vial_here", "_law_most"] spNip := by
  refine T.F_l_nip.ok sc_l_nip (len2 rfl) (fun cdv A outer s H vs Q E hr h => ?_)
  obtain ⟨_, _, rfl, v, n, M, m, rfl, rfl, w, hn, h0, h1, q⟩ := h
  obtain ⟨x, y, z, hv, hx, hz, hzn⟩ := w.at_
  refine ⟨_, (pss_cons (ps_if (pt_cmpR op_gt (pe_ix ix_list (pv 0) pe_int (fun _ _ => rfl)) pe_int (nomark _))
      (pss_cons (ps_asg (pe_callB call_divmod (by rfl) T.z_divmod (by decide +kernel) (pa_cons (pe_ix ix_list (pv 0) pe_int (fun _ _ => rfl)) (pa_cons (pv 1) pa_nil))) (pg_tup (by rfl) (pgs_cons (pg_sub (pv 0) pe_int set_list) (pgs_cons (pg_name (i := 2) sc_l_nip.nd rfl (.inl rfl)) pgs_nil))))
      (pss_one (ps_ret (pv 2)))) pss_nil)
      (pss_cons (ps_asg (pe_op op_add (pe_ix ix_list (pv 0) pe_int (fun _ _ => rfl)) pe_int) (pg_sub (pv 0) pe_int set_list))
      (pss_cons (ps_set (i := 3) sc_l_nip.nd rfl (.inl rfl) (pe_op op_mod (pe_callTy call_int1 (by rfl) T.z_int (by decide +kernel) (pa_cons (pe_op op_add (pe_op op_add (pe_op op_mul (pe_ix ix_list (pv 0) pe_int (fun _ _ => rfl)) pe_int) (pe_op op_mul (pe_op op_mul (pe_ix ix_list (pv 0) pe_int (fun _ _ => rfl)) (pe_ix ix_list (pv 0) pe_int (fun _ _ => rfl))) pe_int)) pe_int) pa_nil)) pe_int))
      (pss_cons (ps_asg (pe_op op_mod (pe_callTy call_int1 (by rfl) T.z_int (by decide +kernel) (pa_cons (pe_op op_add (pe_op op_mul (pv 3) (pe_op op_add pe_int (pe_op op_mod (pe_callTy call_int1 (by rfl) T.z_int (by decide +kernel) (pa_cons (pv 3) pa_nil)) pe_int))) pe_int) pa_nil)) pe_int) (pg_sub (pv 0) pe_int set_list))
      (pss_one (ps_ret (pe_op op_mod (pe_callTy call_int1 (by rfl) T.z_int (by decide +kernel) (pa_cons (pe_op op_fdiv (pe_ix ix_list (pv 0) pe_int (fun _ _ => rfl)) pe_int) pa_nil)) (pv 1)))))))), ?_⟩
  refine ⟨_, rfl, v, _, _, _, rfl, rfl, SqL.of hv, rfl, _, _, rfl, rfl, _, rfl, ite2 (fun e => ?_) (fun e => ?_)⟩
  · refine ⟨_, rfl, v, _, _, _, rfl, rfl, SqL.of hv, rfl, _, rfl, _, _, rfl, ⟨h0, by omega⟩, fun p hp => ?_⟩
    have hv2 : (upd H p (.tup [.int (x / m), .int (x % m)])) v = some (.lst [.int x, .int y, .int z]) := by
      rw [upd_ne (ne_of_none hv hp)]
      exact hv
    refine ⟨p, _, rfl, .inl (.inl upd_same), rfl, _, _, rfl, ?_⟩
    refine ⟨_, rfl, v, _, _, 0, rfl, rfl, hv2, rfl, ?_⟩
    refine ⟨_, _, rfl, rfl, ?_⟩
    refine ⟨_, rfl, q _ _ (Int.emod_nonneg _ (by omega)) (Int.emod_lt_of_pos _ h0) ?_⟩
    exact vl_set (fun b o e => same_new hp b o (w.inn b o e)) w.off (Int.ediv_nonneg hx (by omega)) hz (by omega)
  · refine ⟨_, rfl, v, _, _, _, rfl, rfl, SqL.of hv, rfl, _, _, rfl, rfl, _, rfl, v, _, _, 2, rfl, rfl, hv, rfl, ?_⟩
    have hv3 : (upd H v (.lst [.int x, .int y, .int (z + 1)])) v = some (.lst [.int x, .int y, .int (z + 1)]) := upd_same
    refine ⟨_, rfl, v, _, _, _, rfl, rfl, SqL.of hv3, rfl, _, _, rfl, rfl, .inr ⟨by decide, by decide⟩, ?_⟩
    refine ⟨_, rfl, v, _, _, _, rfl, rfl, SqL.of hv3, rfl, _, rfl, v, _, _, _, rfl, rfl, SqL.of hv3, rfl, _, _, rfl, rfl, .inl ⟨by omega, by omega⟩, ?_⟩
    refine ⟨_, _, rfl, rfl, .inr ⟨by decide, by decide⟩, _, _, rfl, rfl, _, _, rfl, rfl, .inl ⟨_, rfl, _, _, rfl, rfl, (by show (0 : Int) < 2147479753; decide), ?_⟩⟩
    have m0 : 0 ≤ (y * 51043 + (z + 1) * (z + 1) * 173 + 103) % 2147479753 := Int.emod_nonneg _ (by decide)
    have m1 : (y * 51043 + (z + 1) * (z + 1) * 173 + 103) % 2147479753 < 2147479753 := Int.emod_lt_of_pos _ (by decide)
    refine ⟨_, rfl, _, rfl, .inl ⟨_, rfl, _, _, rfl, rfl, (by show (0 : Int) < 5003; decide), _, _, rfl, rfl, _, _, rfl, rfl, .inl ⟨by omega, by omega⟩, _, _, rfl, rfl, .inl ⟨_, rfl, _, _, rfl, rfl, (by show (0 : Int) < 2147480411; decide), ?_⟩⟩⟩
    refine ⟨_, rfl, v, _, _, 1, rfl, rfl, hv3, rfl, ?_⟩
    refine ⟨_, rfl, v, _, _, _, rfl, rfl, SqL.of upd_same, rfl, _, _, rfl, rfl, ⟨by decide, by decide⟩, .inl ⟨_, rfl, _, rfl, _, _, rfl, rfl, h0, ?_⟩⟩
    refine q _ _ (Int.emod_nonneg _ (by omega)) (Int.emod_lt_of_pos _ h0) ?_
    rw [upd_upd]
    exact vl_set w.inn w.off hx (by omega) (by omega)
/-- one of some things -/
def spOpt (K : PySem.W.Frag) : Sp := sp2 fun x y H Q => ∃ v n M p xs, x = .ref v ∧ y = .ref p ∧ Vl v n M H ∧ n < 1000000 ∧ M p = some (.lst xs) ∧ 0 < xs.length ∧ xs.length < 1000 ∧
  ∀ r H', r ∈ xs → Vl v (n + 1) M H' → Q r H'
theorem ok_l_opt (T : Txt K mg a) : FnOk P w K mg base CX0 2 a.f_l_opt a.d_l_opt ["_law_vial_here", "_law_menu"] (spOpt K) := by
  refine T.F_l_opt.ok sc_l_opt (len2 rfl) (fun cdv A outer s H vs Q E hr h => ?_)
  obtain ⟨_, _, rfl, v, n, M, p, xs, rfl, rfl, w, hn, hp, h0, h1, q⟩ := h
  refine ⟨_, (pss_one (ps_ret (pe_ix ix_list (pv 1) (pe_call (ok_l_nip T) (hr.mono (by decide)) (by rfl) T.g_l_nip T.F_l_nip.kp T.b_l_nip .nil pass0 (pa_cons (pv 0) (pa_cons (pe_callB call_len_seq (by rfl) T.z_len (by decide +kernel) (pa_cons (pv 1) pa_nil)) pa_nil))) (fun _ _ => rfl)))), _, rfl, _, rfl, _, rfl, p, xs, rfl, .inl (SqL.of (w.inn _ _ hp)), _, _, rfl, v, n, M, _, rfl, rfl, w, hn, by omega, by omega, fun r H' r0 r1 w' => ?_⟩
  obtain ⟨k, rfl⟩ := Int.eq_ofNat_of_zero_le r0
  have hk : k < xs.length := by omega
  exact ⟨p, xs, (k : Int), xs[k], rfl, rfl, SqL.of (w'.inn _ _ hp), atI_nat (List.getElem?_eq_getElem hk), q _ H' (List.getElem_mem hk) w'⟩
/-! ### pairs of numbers -/
def PairAt (M : Hp) (x : V) (s : S2) : Prop := ∃ p, x = .ref p ∧ M p = some (.tup [.int s.1, .int s.2])
theorem PairAt.mono {M M1 : Hp} {x : V} {s : S2} (h : PairAt M x s) (e : Same M M1) : PairAt M1 x s := by
  obtain ⟨p, r, h⟩ := h
  exact ⟨p, r, e _ _ h⟩
def dS (s : S2) : PyData := .tuple [.int s.1, .int s.2]
theorem PairAt.dp {M : Hp} {x : V} {s : S2} (h : PairAt M x s) : Dp K M x (dS s) := by
  obtain ⟨p, rfl, h⟩ := h
  exact .tup (SqT.of h) (.cons (.int _) (.cons (.int _) .nil))
theorem rd_p0 {σ : L2.St} {H : Hp} {x : V} {s : S2} {Q : VK} (h : PairAt H x s) (q : Q (.int s.1) H) :
    tC (V.int 0) σ H fun y H2 => rIxT K x y H2 Q := by
  obtain ⟨p, rfl, h⟩ := h
  exact ⟨p, _, 0, _, rfl, rfl, SqT.of h, rfl, q⟩
theorem rd_p1 {σ : L2.St} {H : Hp} {x : V} {s : S2} {Q : VK} (h : PairAt H x s) (q : Q (.int s.2) H) :
    tC (V.int 1) σ H fun y H2 => rIxT K x y H2 Q := by
  obtain ⟨p, rfl, h⟩ := h
  exact ⟨p, _, 1, _, rfl, rfl, SqT.of h, rfl, q⟩
theorem tup_next {xs : List V} {Q : VK} {H M : Hp} (hM : Same M H) (hl : xs.length ≤ 1000) (q : ∀ p M' H', Gr M H M' H' → M' p = some (.tup xs) → Q (.ref p) H') :
    xs.length ≤ sizeLine ∧ ∀ p, H p = none → Q (.ref p) (upd H p (.tup xs)) :=
  ⟨Nat.le_of_lt (small1000 hl), fun p hp => q p _ _ (gr_new hM hp) upd_same⟩
def At (M : Hp) (p : Addr) (o : HO) : Prop := M p = some o
theorem At.mono {M M1 : Hp} {p : Addr} {o : HO} (h : At M p o) (e : Same M M1) : At M1 p o := e _ _ h
theorem szL {xs : List V} (h : Nat.ble xs.length 1000 = true) : xs.length ≤ sizeLine := Nat.le_of_lt (small1000 (Nat.le_of_ble_eq_true h))
theorem new_of {H H' M : Hp} {p : Addr} {o : HO} (e : upd H p o = H') (hM : Same M H) (hp : H p = none) : ∃ M', Gr M H M' H' ∧ At M' p o :=
  ⟨upd M p o, e ▸ gr_new hM hp, upd_same⟩
theorem lst_next {xs : List V} {Q : VK} {H M : Hp} (hM : Same M H) (hl : xs.length ≤ 1000) (q : ∀ p M' H', Gr M H M' H' → M' p = some (.lst xs) → Q (.ref p) H') :
    xs.length ≤ sizeLine ∧ ∀ p, H p = none → Q (.ref p) (upd H p (.lst xs)) :=
  ⟨Nat.le_of_lt (small1000 hl), fun p hp => q p _ _ (gr_new hM hp) upd_same⟩
def NewP (M H : Hp) (s : S2) (Q : VK) : Prop := ∀ r M' H', Gr M H M' H' → PairAt M' r s → Q r H'
theorem pair_next {Q : VK} {H M : Hp} {s : S2} (hM : Same M H) (q : NewP M H s Q) :
    [V.int s.1, V.int s.2].length ≤ sizeLine ∧ ∀ p, H p = none → Q (.ref p) (upd H p (.tup [.int s.1, .int s.2])) :=
  tup_next hM (by show 2 ≤ 1000; decide) fun p M' H' g h => q _ M' H' g ⟨p, rfl, h⟩
/-- a pair is drawn -/
def spPair : Sp := sp1 fun x H Q => ∃ v n M, x = .ref v ∧ Vl v n M H ∧ n + 4 < 1000000 ∧
  ∀ r M' H' s, UnitS s → s.2.natAbs ≤ 10 ^ 30 → Same M M' → Vl v (n + 4) M' H' → PairAt M' r s → Q r H'
theorem ok_l_pair (T : Txt K mg a) : FnOk P w K mg base CX0 3 a.f_l_pair a.d_l_pair ["_law_vial_here"] spPair := by
  refine T.F_l_pair.ok sc_l_pair (len1 rfl) (fun cdv A outer s H vs Q E hr h => ?_)
  obtain ⟨_, rfl, v, n, M, rfl, w, hn, q⟩ := h
  refine ⟨_, (pss_cons (ps_set (i := 1) sc_l_pair.nd rfl (.inl rfl) (pe_op op_sub (pe_call (ok_l_nip T) (hr.mono (by decide)) (by rfl) T.g_l_nip T.F_l_nip.kp T.b_l_nip .nil pass0 (pa_cons (pv 0) (pa_cons pe_int pa_nil))) pe_int))
      (pss_cons (ps_if (pt_cmpR op_eq (pe_call (ok_l_nip T) (hr.mono (by decide)) (by rfl) T.g_l_nip T.F_l_nip.kp T.b_l_nip .nil pass0 (pa_cons (pv 0) (pa_cons pe_int pa_nil))) pe_int (nomark _))
      (pss_one (ps_set (i := 1) sc_l_pair.nd rfl (.inl rfl) (pe_call (ok_l_opt T) (hr.mono (by decide)) (by rfl) T.g_l_opt T.F_l_opt.kp T.b_l_opt .nil pass0 (pa_cons (pv 0) (pa_cons (pe_lst (pa_cons (pe_op op_pow pe_int pe_int) (pa_cons (pe_un un_neg (pe_op op_pow pe_int pe_int)) (pa_cons (pe_op op_add (pe_op op_mul pe_int (pe_op op_pow pe_int pe_int)) pe_int) (pa_cons (pe_un un_neg pe_int) (pa_cons pe_int pa_nil)))))) pa_nil))))) pss_nil)
      (pss_one (ps_ret (pe_tup (pa_cons (pe_call (ok_l_opt T) (hr.mono (by decide)) (by rfl) T.g_l_opt T.F_l_opt.kp T.b_l_opt .nil pass0 (pa_cons (pv 0) (pa_cons (pe_lst (pa_cons pe_int (pa_cons pe_int (pa_cons (pe_un un_neg pe_int) pa_nil)))) pa_nil))) (pa_cons (pv 1) pa_nil))))))), ?_⟩
  refine ⟨_, rfl, _, _, rfl, v, n, M, 13, rfl, rfl, w, by omega, by decide, by decide, fun r1 H1 a1 b1 w1 => ⟨_, _, rfl, rfl, ?_⟩⟩
  refine ⟨_, rfl, _, _, rfl, v, n + 1, M, 9, rfl, rfl, w1, by omega, by decide, by decide, fun r2 H2 a2 b2 w2 => ⟨rfl, _, rfl, ite2 (fun e => ?_) (fun e => ?_)⟩⟩
  · refine ⟨_, rfl, _, _, rfl, rfl, ⟨by decide, by decide, by decide⟩, ?_⟩
    refine ⟨_, _, rfl, rfl, ⟨by decide, by decide, by decide⟩, _, rfl, ?_⟩
    refine ⟨_, _, rfl, rfl, ⟨by decide, by decide, by decide⟩, _, _, rfl, rfl, .inl ⟨by decide, by decide⟩, _, _, rfl, rfl, ?_⟩
    refine ⟨_, rfl, ?_⟩
    refine ⟨szL rfl, fun p pn => ?_⟩
    generalize e3 : upd H2 p _ = H3
    obtain ⟨M3, g3, hp⟩ := new_of e3 w2.inn pn
    have w3 := w2.grow g3
    refine ⟨_, _, rfl, v, n + 2, M3, p, _, rfl, rfl, w3, by omega, hp, by show 0 < 5; decide, by show 5 < 1000; decide, fun r4 H4 m4 w4 => ?_⟩
    have big : ∃ f : Int, r4 = .int f ∧ f.natAbs ≤ 10 ^ 30 := by
      simp only [List.mem_cons, List.not_mem_nil, or_false] at m4
      rcases m4 with rfl | rfl | rfl | rfl | rfl
      all_goals exact ⟨_, rfl, by decide +kernel⟩
    obtain ⟨f, rfl, hf⟩ := big
    refine ⟨_, rfl, _, rfl, ?_⟩
    refine ⟨szL rfl, fun p5 pn5 => ?_⟩
    generalize e5 : upd H4 p5 _ = H5
    obtain ⟨M5, g5, hp5⟩ := new_of e5 w4.inn pn5
    have w5 := w4.grow g5
    refine ⟨_, _, rfl, v, n + 3, M5, p5, _, rfl, rfl, w5, by omega, hp5, by show 0 < 3; decide, by show 3 < 1000; decide, fun r6 H6 m6 w6 => ?_⟩
    have sd : ∃ i : Int, r6 = .int i ∧ (i = 1 ∨ i = -1) := by
      simp only [List.mem_cons, List.not_mem_nil, or_false] at m6
      rcases m6 with rfl | rfl | rfl
      all_goals exact ⟨_, rfl, by decide⟩
    obtain ⟨i, rfl, hi⟩ := sd
    refine ⟨_, rfl, ?_⟩
    refine pair_next (s := (i, f)) w6.inn fun r7 M7 H7 g7 h7 => ?_
    exact q r7 M7 H7 (i, f) hi hf ((g3.ex.trans g5.ex).trans g7.ex) ((w6.grow g7)) h7
  · refine ⟨_, rfl, _, rfl, ?_⟩
    refine ⟨szL rfl, fun p5 pn5 => ?_⟩
    generalize e5 : upd H2 p5 _ = H5
    obtain ⟨M5, g5, hp5⟩ := new_of e5 w2.inn pn5
    have w5 := w2.grow g5
    refine ⟨_, _, rfl, v, n + 2, M5, p5, _, rfl, rfl, w5, by omega, hp5, by show 0 < 3; decide, by show 3 < 1000; decide, fun r6 H6 m6 w6 => ?_⟩
    have sd : ∃ i : Int, r6 = .int i ∧ (i = 1 ∨ i = -1) := by
      simp only [List.mem_cons, List.not_mem_nil, or_false] at m6
      rcases m6 with rfl | rfl | rfl
      all_goals exact ⟨_, rfl, by decide⟩
    obtain ⟨i, rfl, hi⟩ := sd
    refine ⟨_, rfl, ?_⟩
    refine pair_next (s := (i, r1 - 6)) w6.inn fun r7 M7 H7 g7 h7 => ?_
    have hf : (r1 - 6).natAbs ≤ 10 ^ 30 := Nat.le_trans (show (r1 - 6).natAbs ≤ 100 by omega) (by decide +kernel)
    exact q r7 M7 H7 (i, r1 - 6) hi hf (g5.ex.trans g7.ex) ((w6.grow g7).mono (by omega)) h7
/-! ### the law's own sums -/
def spThen2 : Sp := sp2 fun x y H Q => ∃ M s t, Same M H ∧ PairAt M x s ∧ PairAt M y t ∧ UnitS s ∧ NewP M H (thenS s t) Q
theorem ok_l_then (T : Txt K mg a) : FnOk P w K mg base CX0 1 a.f_l_then a.d_l_then ["_law_near", "_law_late"] spThen2 := by
  refine T.F_l_then.ok sc_l_then (len2 rfl) (fun cdv A outer s H vs Q E hr h => ?_)
  obtain ⟨_, _, rfl, M, s, t, hM, h1, h2, hs, q⟩ := h
  have k1 := h1.mono hM
  have k2 := h2.mono hM
  refine ⟨_, (pss_one (ps_ret (pe_tup (pa_cons (pe_op op_mul (pe_ix ix_tup (pv 0) pe_int (fun _ _ => rfl)) (pe_ix ix_tup (pv 1) pe_int (fun _ _ => rfl))) (pa_cons (pe_op op_add (pe_ix ix_tup (pv 0) pe_int (fun _ _ => rfl)) (pe_op op_mul (pe_ix ix_tup (pv 0) pe_int (fun _ _ => rfl)) (pe_ix ix_tup (pv 1) pe_int (fun _ _ => rfl)))) pa_nil))))), _, rfl, rd_p0 k1 ⟨_, rfl, rd_p0 k2 ⟨_, _, rfl, rfl, side_mul hs, ?_⟩⟩⟩
  refine ⟨_, rfl, rd_p1 k1 ⟨_, rfl, rd_p0 k1 ⟨_, rfl, rd_p1 k2 ⟨_, _, rfl, rfl, side_mul hs, _, _, rfl, rfl, ?_⟩⟩⟩⟩
  exact pair_next (s := thenS s t) hM q
def spUnd2 : Sp := sp1 fun x H Q => ∃ M s, Same M H ∧ PairAt M x s ∧ UnitS s ∧ NewP M H (undS s) Q
theorem ok_l_undone (T : Txt K mg a) : FnOk P w K mg base CX0 1 a.f_l_undone a.d_l_undone ["_law_near"] spUnd2 := by
  refine T.F_l_undone.ok sc_l_undone (len1 rfl) (fun cdv A outer s H vs Q E hr h => ?_)
  obtain ⟨_, rfl, M, s, hM, h1, hs, q⟩ := h
  have k1 := h1.mono hM
  refine ⟨_, (pss_one (ps_ret (pe_tup (pa_cons (pe_ix ix_tup (pv 0) pe_int (fun _ _ => rfl)) (pa_cons (pe_op op_sub pe_int (pe_op op_mul (pe_ix ix_tup (pv 0) pe_int (fun _ _ => rfl)) (pe_ix ix_tup (pv 0) pe_int (fun _ _ => rfl)))) pa_nil))))), _, rfl, rd_p0 k1 ⟨_, rfl, rd_p0 k1 ⟨_, rfl, rd_p1 k1 ⟨_, _, rfl, rfl, side_mul hs, _, _, rfl, rfl, ?_⟩⟩⟩⟩
  exact pair_next (s := undS s) hM q
def spKept (C : Addr) : Sp := sp1 fun x H Q => ∃ M s, Same M H ∧ Sl C M x s ∧ NewP M H s Q
theorem ok_l_kept (T : Txt K mg a) : FnOk P w K mg base CX0 4 a.f_l_kept a.d_l_kept ["_law_mine"] (spKept a.C_Slide) := by
  refine T.F_l_kept.ok sc_l_kept (len1 rfl) (fun cdv A outer s H vs Q E hr h => ?_)
  obtain ⟨_, rfl, M, s, hM, h1, q⟩ := h
  have k1 := h1.mono hM
  refine ⟨_, (pss_one (ps_ret (pe_tup (pa_cons (pe_prop (pv 0) T.o_Slide.cl T.p_Slide_side (ok_Slide_side T) (hr.mono (by decide)) T.b_Slide_side .nil pass0 rfl) (pa_cons (pe_prop (pv 0) T.o_Slide.cl T.p_Slide_shift (ok_Slide_shift T) (hr.mono (by decide)) T.b_Slide_shift .nil pass0 rfl) pa_nil))))), _, rfl, rd_side k1 ⟨_, rfl, rd_shift k1 ?_⟩⟩
  exact pair_next (s := s) hM q
def spOft2 : Sp := sp2 fun x y H Q => ∃ M s t, Same M H ∧ PairAt M x s ∧ y = .int t ∧ UnitS s ∧ s.2.natAbs < 10 ^ 100 ∧ t.natAbs < 10 ^ 100 ∧ NewP M H (oftS s t) Q
theorem ok_l_often (T : Txt K mg a) : FnOk P w K mg base CX0 1 a.f_l_often a.d_l_often ["_law_near", "_law_many"] spOft2 := by
  refine T.F_l_often.ok sc_l_often (len2 rfl) (fun cdv A outer s H vs Q E hr h => ?_)
  obtain ⟨_, _, rfl, M, s, t, hM, h1, rfl, hs, hb, hb2, q⟩ := h
  have k1 := h1.mono hM
  refine ⟨_, (pss_cons (ps_if (pt_cmpR op_eq (pe_ix ix_tup (pv 0) pe_int (fun _ _ => rfl)) pe_int (nomark _))
      (pss_one (ps_ret (pe_tup (pa_cons pe_int (pa_cons (pe_op op_mulW (pe_ix ix_tup (pv 0) pe_int (fun _ _ => rfl)) (pv 1)) pa_nil))))) pss_nil)
      (pss_one (ps_ret (pe_ifExp (pt_cmpR op_eq (pe_op op_mod (pe_callTy call_int1 (by rfl) T.z_int (by decide +kernel) (pa_cons (pv 1) pa_nil)) pe_int) pe_int (nomark _)) (pv 0) (pe_tup (pa_cons pe_int (pa_cons pe_int pa_nil))))))), _, rfl, rd_p0 k1 ⟨rfl, _, rfl, ite2 (fun e => ?_) (fun e => ?_)⟩⟩
  · have e1 : s.1 = 1 := V.int.inj (of_decide_eq_true e)
    have z : oftS s t = (1, s.2 * t) := by unfold oftS; rw [if_pos (by omega)]
    refine ⟨_, rfl, rd_p1 k1 ⟨_, rfl, _, _, rfl, rfl, big_mul hb hb2, ?_⟩⟩
    exact pair_next (s := (1, s.2 * t)) hM (z ▸ q)
  · have e1 : ¬ s.1 = 1 := fun z => e (decide_eq_true (congrArg V.int z))
    have e2 : ¬ 0 < s.1 := by rcases hs with h | h <;> omega
    refine ⟨_, rfl, .inl ⟨_, rfl, _, _, rfl, rfl, (by show (0 : Int) < 2; decide), rfl, _, rfl, ite2 (fun e3 => ?_) (fun e3 => ?_)⟩⟩
    · have e4 : t % 2 = 1 := V.int.inj (of_decide_eq_true e3)
      have z : oftS s t = s := by unfold oftS; rw [if_neg e2, if_pos e4]
      exact ⟨_, rfl, q _ M H (Gr.refl hM) (by rw [z]; exact h1)⟩
    · have e4 : ¬ t % 2 = 1 := fun z => e3 (decide_eq_true (congrArg V.int z))
      have z : oftS s t = (1, 0) := by unfold oftS; rw [if_neg e2, if_neg e4]
      exact pair_next (s := (1, 0)) hM (z ▸ q)
end

end K33

namespace K33
open PySem PySem.Spec PyProof.Rows L2 Own
section
variable {P : Program} {w : World} {K : PySem.W.Frag} {mg : Str → Option Value} {base : Heap} {a : Ad}
/-! ### bounds -/
def Bd (n : Nat) (s : S2) : Prop := UnitS s ∧ s.2.natAbs ≤ n
theorem bd_then {n m : Nat} {s t : S2} (h : Bd n s) (k : Bd m t) : Bd (n + m) (thenS s t) := by
  refine ⟨unit_then h.1 k.1, ?_⟩
  have h2 := h.2
  have k2 := k.2
  show (s.2 + s.1 * t.2).natAbs ≤ n + m
  rcases h.1 with e | e <;> rw [e] <;> omega
theorem bd_und {n : Nat} {s : S2} (h : Bd n s) : Bd n (undS s) := by
  refine ⟨h.1, ?_⟩
  have h2 := h.2
  show (0 - s.1 * s.2).natAbs ≤ n
  rcases h.1 with e | e <;> rw [e] <;> omega
theorem bd_oft {n m : Nat} {s : S2} {t : Int} (h : Bd n s) (k : t.natAbs ≤ m) : Bd (n * m + n) (oftS s t) := by
  refine ⟨unit_oft h.1 t, ?_⟩
  unfold oftS
  split
  · show (s.2 * t).natAbs ≤ n * m + n
    rw [Int.natAbs_mul]
    exact Nat.le_trans (Nat.mul_le_mul h.2 k) (Nat.le_add_right _ _)
  · split
    · exact Nat.le_trans h.2 (Nat.le_add_left _ _)
    · exact Nat.zero_le _
theorem Bd.small {n : Nat} {s : S2} (h : Bd n s) (hn : Nat.ble n (10 ^ 299) = true) : s.2.natAbs < 10 ^ 300 :=
  Nat.lt_of_le_of_lt (Nat.le_trans h.2 (Nat.le_of_ble_eq_true hn)) (by decide +kernel)
theorem Bd.small1 {n : Nat} {s : S2} (h : Bd n s) (hn : Nat.ble n (10 ^ 99) = true) : s.2.natAbs < 10 ^ 100 :=
  Nat.lt_of_le_of_lt (Nat.le_trans h.2 (Nat.le_of_ble_eq_true hn)) (by decide +kernel)
theorem Bd.ok {n : Nat} {s : S2} (h : Bd n s) (hn : Nat.ble n (10 ^ 299) = true) : Oky (dS s) := by
  have h1 : s.1.natAbs < 10 ^ 300 := by
    have : s.1.natAbs ≤ 1 := by rcases h.1 with e | e <;> rw [e] <;> decide
    exact Nat.lt_of_le_of_lt this (by decide +kernel)
  exact ⟨h1, h.small hn, trivial⟩
theorem ok2 {d e : PyData} (h : Oky d) (k : Oky e) : Oky (.list [d, e]) := ⟨h, k, trivial⟩
theorem dp2 {M : Hp} {p : Addr} {x y : V} {d e : PyData} (h : M p = some (.lst [x, y])) (hx : Dp K M x d) (hy : Dp K M y e) : Dp K M (.ref p) (.list [d, e]) :=
  .lst (SqL.of h) (.cons hx (.cons hy .nil))
theorem bl_refl {Q : VK} {x : V} {H : Hp} (q : Q (.bl true) H) : Q (.bl (decide (x = x))) H := by
  rw [decide_eq_true rfl]
  exact q
theorem iteNS_or {c A B : Prop} [Decidable c] (hc : c) (h : B) : if (!decide c) = true then A else B := iteNS hc h
/-! ### == and != of slides that are the same -/
theorem ne_slide {C : Addr} {H : Hp} {x y : V} {s t : S2} {Q : VK} (c : OwnC K C) (h1 : Sl C H x s) (h2 : Sl C H y t) (e : s = t) (hb : s.2.natAbs < 10 ^ 300) (q : Q (.bl false) H) :
    rNeOwn K C (spSlideEq C) E0 x y H Q := by
  subst e
  obtain ⟨p, dx, rfl, hp, hs⟩ := h1
  obtain ⟨p2, dx2, rfl, hp2, hs2⟩ := h2
  refine ⟨p, dx, _, rfl, hp, c.rgt hp2, _, _, rfl, s, s, ⟨p, dx, rfl, hp, hs⟩, ⟨p2, dx2, rfl, hp2, hs2⟩, hb, hb, true, ?_, q⟩
  rw [decide_eq_true rfl]
theorem eq_slide {C : Addr} {H : Hp} {x y : V} {s t : S2} {Q : VK} (c : OwnC K C) (h1 : Sl C H x s) (h2 : Sl C H y t) (e : s = t) (hb : s.2.natAbs < 10 ^ 300) (q : Q (.bl true) H) :
    rEqOwn K C (spSlideEq C) E0 x y H Q := by
  subst e
  obtain ⟨p, dx, rfl, hp, hs⟩ := h1
  obtain ⟨p2, dx2, rfl, hp2, hs2⟩ := h2
  refine ⟨p, dx, _, rfl, hp, c.rgt hp2, _, _, rfl, s, s, ⟨p, dx, rfl, hp, hs⟩, ⟨p2, dx2, rfl, hp2, hs2⟩, hb, hb, true, ?_, q⟩
  rw [decide_eq_true rfl]
/-! ### sums of slides -/
theorem then_assoc (x y z : S2) : thenS (thenS x y) z = thenS x (thenS y z) := by
  obtain ⟨s, n⟩ := x
  obtain ⟨t, m⟩ := y
  obtain ⟨u, k⟩ := z
  simp only [thenS, Prod.mk.injEq, Int.mul_add, Int.mul_assoc, Int.add_assoc, and_self]
theorem then_und {x : S2} (h : UnitS x) : thenS x (undS x) = (1, 0) := by
  obtain ⟨s, n⟩ := x
  rcases h with e | e <;> simp only at e <;> subst e <;> simp only [thenS, undS, Prod.mk.injEq] <;> omega
theorem und_then {x : S2} (h : UnitS x) : thenS (undS x) x = (1, 0) := by
  obtain ⟨s, n⟩ := x
  rcases h with e | e <;> simp only at e <;> subst e <;> simp only [thenS, undS, Prod.mk.injEq] <;> omega
theorem at_then (x y : S2) (m : Int) : (thenS x y).2 + (thenS x y).1 * m = x.2 + x.1 * (y.2 + y.1 * m) := by
  simp only [thenS, Int.mul_add, Int.mul_assoc, Int.add_assoc]
theorem at_und {x : S2} (h : UnitS x) (m : Int) : (undS x).2 + (undS x).1 * (x.2 + x.1 * m) = m := by
  obtain ⟨s, n⟩ := x
  rcases h with e | e <;> simp only at e <;> subst e <;> simp only [undS] <;> omega
theorem gap_is (x y : S2) : gapS x y = thenS (thenS (thenS x y) (undS x)) (undS y) := by
  unfold gapS
  rw [then_assoc (thenS x y)]
/-- a slide was made -/
theorem sl_of {C : Addr} {M H H' : Hp} {x dx : Addr} {s : S2} (e : upd (upd H dx (.own x)) x (.ins C dx [("own_side", .int s.1), ("own_shift", .int s.2)]) = H') (hM : Same M H) (hx : H x = none) (hd : H dx = none) (ne : dx ≠ x) (hs : UnitS s) :
    ∃ M', Gr M H M' H' ∧ Sl C M' (.ref x) s := ⟨_, e ▸ gr_ins hM hx hd ne, x, dx, rfl, upd_same, hs⟩
/-! ### so often -/
theorem oft_pos {s : S2} (h : s.1 = 1) (t : Int) : oftS s t = (1, s.2 * t) := by unfold oftS; rw [if_pos (by omega)]
theorem oft_odd {s : S2} (h : s.1 = -1) {t : Int} (k : t % 2 = 1) : oftS s t = s := by unfold oftS; rw [if_neg (by omega), if_pos k]
theorem oft_even {s : S2} (h : s.1 = -1) {t : Int} (k : ¬ t % 2 = 1) : oftS s t = (1, 0) := by unfold oftS; rw [if_neg (by omega), if_neg k]
theorem neg_twice {s : S2} (h : s.1 = -1) : thenS s s = (1, 0) := by
  obtain ⟨x, n⟩ := s
  simp only at h
  subst h
  simp only [thenS, Prod.mk.injEq]
  omega
theorem still_then (s : S2) : thenS (1, 0) s = s := by
  obtain ⟨x, n⟩ := s
  simp only [thenS, Prod.mk.injEq]
  omega
theorem oft_succ {s : S2} (h : UnitS s) (t : Int) : thenS (oftS s t) s = oftS s (t + 1) := by
  rcases h with e | e
  · rw [oft_pos e, oft_pos e]
    simp only [thenS, Prod.mk.injEq, e, Int.mul_add, Int.mul_one, Int.one_mul, and_self]
  · by_cases k : t % 2 = 1
    · rw [oft_odd e k, oft_even e (by omega), neg_twice e]
    · rw [oft_even e k, oft_odd e (by omega), still_then]
theorem oft_twice {s : S2} (h : UnitS s) (t : Int) : thenS (oftS s t) (oftS s t) = oftS s (2 * t) := by
  rcases h with e | e
  · rw [oft_pos e, oft_pos e]
    have z : s.2 * (2 * t) = s.2 * t + s.2 * t := by rw [Int.mul_left_comm]; omega
    simp only [thenS, Prod.mk.injEq, Int.mul_one, Int.one_mul, z, and_self]
  · by_cases k : t % 2 = 1
    · rw [oft_odd e k, oft_even e (by omega), neg_twice e]
    · rw [oft_even e k, oft_even e (by omega), still_then]
theorem oft_back {s : S2} (h : UnitS s) (t : Int) : undS (oftS s t) = oftS s (0 - t) := by
  rcases h with e | e
  · rw [oft_pos e, oft_pos e]
    simp only [undS, Prod.mk.injEq, Int.one_mul, Int.mul_sub, Int.mul_zero, and_self]
  · by_cases k : t % 2 = 1
    · rw [oft_odd e k, oft_odd e (by omega)]
      obtain ⟨x, n⟩ := s
      simp only at e
      subst e
      show ((-1 : Int), 0 - (-1) * n) = (-1, n)
      rw [show (0 - (-1) * n : Int) = n by omega]
    · rw [oft_even e k, oft_even e (by omega)]
      rfl
theorem eqv_dS (s t : S2) : PyData.eqv (dS s) (dS t) = decide (s = t) := by
  obtain ⟨x, n⟩ := s
  obtain ⟨y, m⟩ := t
  have e : PyData.eqv (dS (x, n)) (dS (y, m)) = ((x == y) && ((n == m) && true)) := rfl
  rw [e]
  by_cases h1 : x = y
  · by_cases h2 : n = m
    · subst h1; subst h2
      simp
    · simp [h2]
  · simp [h1]
theorem oki {i : Int} (h : i.natAbs < 10 ^ 300) : Oky (.int i) := h
theorem sh_dS (s : S2) : SeqAt.shaped (dS s) = true := rfl
theorem yes_if {σ : L2.St} {H : Hp} {A B : Hp → Prop} (h : A H) : tYes σ H (fun b H3 => if b = true then A H3 else B H3) := by
  show (if true = true then A H else B H)
  rw [if_pos rfl]
  exact h
/-- slides, one beside another -/
def SlAll (C : Addr) (M : Hp) : List V → List S2 → Prop
  | [], [] => True
  | x :: xs, s :: ss => Sl C M x s ∧ SlAll C M xs ss
  | _, _ => False
theorem SlAll.mono {C : Addr} {M M1 : Hp} (e : Same M M1) : ∀ {xs : List V} {ss : List S2}, SlAll C M xs ss → SlAll C M1 xs ss
  | [], [], _ => trivial
  | _ :: _, _ :: _, h => ⟨h.1.mono e, SlAll.mono e h.2⟩
  | [], _ :: _, h => h.elim
  | _ :: _, [], h => h.elim
theorem SlAll.snoc {C : Addr} {M : Hp} {x : V} {s : S2} (h : Sl C M x s) : ∀ {xs : List V} {ss : List S2}, SlAll C M xs ss → SlAll C M (xs ++ [x]) (ss ++ [s])
  | [], [], _ => ⟨h, trivial⟩
  | _ :: _, _ :: _, k => ⟨k.1, SlAll.snoc h k.2⟩
  | [], _ :: _, k => k.elim
  | _ :: _, [], k => k.elim
theorem SlAll.len {C : Addr} {M : Hp} : ∀ {xs : List V} {ss : List S2}, SlAll C M xs ss → xs.length = ss.length
  | [], [], _ => rfl
  | _ :: _, _ :: _, k => congrArg (· + 1) (SlAll.len k.2)
  | [], _ :: _, k => k.elim
  | _ :: _, [], k => k.elim
def spRight : Sp := sp1 fun x H Q => ∃ v M, x = .ref v ∧ Vl v 0 M H ∧ ∀ H', Same M H' → Q (.bl true) H'
end

end K33

namespace K33
open PySem PySem.Spec PyProof.Rows L2 Own
section
variable {P : Program} {w : World} {K : PySem.W.Frag} {mg : Str → Option Value} {base : Heap} {a : Ad}
/-! ### the text tells the slide -/
theorem slText_inj {s t : S2} (hs : UnitS s) (ht : UnitS t) (h : slText s = slText t) : s = t := by
  have e := congrArg (fun x : Str => x.cps.toList) h
  simp only [slText, toList_app, tl_int] at e
  have l1 : ∀ x : S2, (signT x).cps.toList = [if 0 < x.1 then 43 else 45] := by
    intro x
    unfold signT
    split <;> decide +kernel
  rw [l1, l1] at e
  simp only [List.append_assoc, List.append_cancel_left_eq, List.cons_append, List.nil_append, List.cons.injEq] at e
  obtain ⟨e1, e2⟩ := e
  have e3 := intL_inj e2
  have e4 : s.1 = t.1 := by
    rcases hs with h | h <;> rcases ht with k | k <;> rw [h, k] at e1 ⊢ <;> revert e1 <;> decide
  exact Prod.ext e4 e3
theorem text_dec {s t : S2} (hs : UnitS s) (ht : UnitS t) : decide (V.str (slText s) = V.str (slText t)) = decide (s = t) := by
  by_cases h : s = t
  · subst h
    rw [decide_eq_true rfl, decide_eq_true rfl]
  · rw [decide_eq_false h, decide_eq_false]
    intro e
    exact h (slText_inj hs ht (V.str.inj e))
/-! ### slides that may be None -/
def OptSl (C : Addr) (M : Hp) (x : V) : Option S2 → Prop
  | none => x = .non
  | some s => Sl C M x s
theorem OptSl.mono {C : Addr} {M M1 : Hp} {x : V} : ∀ {o : Option S2}, OptSl C M x o → Same M M1 → OptSl C M1 x o
  | none, h, _ => h
  | some _, h, e => Sl.mono h e
def OptNew (C : Addr) (M H : Hp) (o : Option S2) (Q : VK) : Prop := ∀ r M' H', Gr M H M' H' → OptSl C M' r o → Q r H'
theorem OptNew.non {C : Addr} {M H : Hp} {o : Option S2} {Q : VK} (hM : Same M H) (e : o = none) (q : OptNew C M H o Q) : Q .non H := by
  subst e
  exact q _ M H (Gr.refl hM) rfl
theorem OptNew.some {C : Addr} {M H : Hp} {o : Option S2} {s : S2} {Q : VK} (e : o = some s) (q : OptNew C M H o Q) : New1 C M H s Q := by
  subst e
  exact q
def linkS (s t : S2) : Option S2 :=
  if s.1 ≠ t.1 then none else if s.1 < 0 then (if (t.2 - s.2) % 2 = 0 then some (1, (t.2 - s.2) / 2) else none)
  else if s.2 = t.2 then some (1, 0) else if s.2 = 0 - t.2 then some (-1, 0) else none
def spLink (C : Addr) : Sp := sp2 fun x y H Q => ∃ M s t, Same M H ∧ Sl C M x s ∧ Sl C M y t ∧ OptNew C M H (linkS s t) Q
theorem ok_slide_link (T : Txt K mg a) : FnOk P w K mg base CX0 5 a.f_slide_link a.d_slide_link ["one", "other"] (spLink a.C_Slide) := by
  refine T.F_slide_link.ok sc_slide_link (len2 rfl) (fun cdv A outer s H vs Q E hr h => ?_)
  obtain ⟨_, _, rfl, M, s, t, hM, h1, h2, q⟩ := h
  have k1 := h1.mono hM
  have k2 := h2.mono hM
  refine ⟨_, (pss_cons (ps_if (pt_cmpR op_ne (pe_prop (pv 0) T.o_Slide.cl T.p_Slide_side (ok_Slide_side T) (hr.mono (by decide)) T.b_Slide_side .nil pass0 rfl) (pe_prop (pv 1) T.o_Slide.cl T.p_Slide_side (ok_Slide_side T) (hr.mono (by decide)) T.b_Slide_side .nil pass0 rfl) (nomark _))
      (pss_one (ps_ret pe_non)) pss_nil)
      (pss_cons (ps_if (pt_cmpR op_lt (pe_prop (pv 0) T.o_Slide.cl T.p_Slide_side (ok_Slide_side T) (hr.mono (by decide)) T.b_Slide_side .nil pass0 rfl) pe_int (nomark _))
      (pss_cons (ps_set (i := 2) sc_slide_link.nd rfl (.inl rfl) (pe_op op_sub (pe_prop (pv 1) T.o_Slide.cl T.p_Slide_shift (ok_Slide_shift T) (hr.mono (by decide)) T.b_Slide_shift .nil pass0 rfl) (pe_prop (pv 0) T.o_Slide.cl T.p_Slide_shift (ok_Slide_shift T) (hr.mono (by decide)) T.b_Slide_shift .nil pass0 rfl)))
      (pss_one (ps_ret (pe_ifExp (pt_cmpR op_eq (pe_op op_mod (pv 2) pe_int) pe_int (nomark _)) (pe_make T.m_Slide (ok_Slide_init T) (hr.mono (by decide)) (by rfl) T.g_Slide T.b_Slide_init .nil pass0 (pa_cons pe_int (pa_cons (pe_op op_fdiv (pv 2) pe_int) pa_nil))) pe_non)))) pss_nil)
      (pss_cons (ps_if (pt_cmpR op_eq (pe_prop (pv 0) T.o_Slide.cl T.p_Slide_shift (ok_Slide_shift T) (hr.mono (by decide)) T.b_Slide_shift .nil pass0 rfl) (pe_prop (pv 1) T.o_Slide.cl T.p_Slide_shift (ok_Slide_shift T) (hr.mono (by decide)) T.b_Slide_shift .nil pass0 rfl) (nomark _))
      (pss_one (ps_ret (pe_call0 (ok_still_slide T) (hr.mono (by decide)) (by rfl) T.g_still_slide T.F_still_slide.kp T.b_still_slide .nil pass0))) pss_nil)
      (pss_one (ps_ret (pe_ifExp (pt_cmpR op_eq (pe_prop (pv 0) T.o_Slide.cl T.p_Slide_shift (ok_Slide_shift T) (hr.mono (by decide)) T.b_Slide_shift .nil pass0 rfl) (pe_op op_sub pe_int (pe_prop (pv 1) T.o_Slide.cl T.p_Slide_shift (ok_Slide_shift T) (hr.mono (by decide)) T.b_Slide_shift .nil pass0 rfl)) (nomark _)) (pe_make T.m_Slide (ok_Slide_init T) (hr.mono (by decide)) (by rfl) T.g_Slide T.b_Slide_init .nil pass0 (pa_cons (pe_op op_sub pe_int pe_int) (pa_cons pe_int pa_nil))) pe_non)))))), _, rfl, rd_side k1 ⟨_, rfl, rd_side k2 ⟨rfl, _, rfl, ite2 (fun e => ?_) (fun e => ?_)⟩⟩⟩
  · have e1 : s.1 ≠ t.1 := fun z => by rw [z] at e; simp at e
    exact q.non hM (by unfold linkS; rw [if_pos e1])
  · have e1 : ¬ s.1 ≠ t.1 := fun z => e (by simp [z])
    refine ⟨_, rfl, rd_side k1 ⟨_, _, rfl, rfl, _, rfl, ite2 (fun e => ?_) (fun e => ?_)⟩⟩
    · have e2 : s.1 < 0 := of_decide_eq_true e
      refine ⟨_, rfl, rd_shift k2 ⟨_, rfl, rd_shift k1 ⟨_, _, rfl, rfl, ?_⟩⟩⟩
      refine ⟨_, rfl, _, _, rfl, rfl, (by show (0 : Int) < 2; decide), rfl, _, rfl, ite2 (fun e => ?_) (fun e => ?_)⟩
      · have e3 : (t.2 - s.2) % 2 = 0 := V.int.inj (of_decide_eq_true e)
        refine ⟨_, rfl, _, _, rfl, rfl, ⟨by decide, by decide⟩, ?_⟩
        exact mk_slide (s := (1, (t.2 - s.2) / 2)) (.inl rfl) hM (q.some (by unfold linkS; rw [if_neg e1, if_pos e2, if_pos e3]))
      · have e3 : ¬ (t.2 - s.2) % 2 = 0 := fun z => e (decide_eq_true (congrArg V.int z))
        exact q.non hM (by unfold linkS; rw [if_neg e1, if_pos e2, if_neg e3])
    · have e2 : ¬ s.1 < 0 := fun z => e (decide_eq_true z)
      refine ⟨_, rfl, rd_shift k1 ⟨_, rfl, rd_shift k2 ⟨rfl, _, rfl, ite2 (fun e => ?_) (fun e => ?_)⟩⟩⟩
      · have e3 : s.2 = t.2 := V.int.inj (of_decide_eq_true e)
        exact ⟨rfl, M, hM, q.some (by unfold linkS; rw [if_neg e1, if_neg e2, if_pos e3])⟩
      · have e3 : ¬ s.2 = t.2 := fun z => e (decide_eq_true (congrArg V.int z))
        refine ⟨_, rfl, rd_shift k1 ⟨_, rfl, rd_shift k2 ⟨_, _, rfl, rfl, rfl, _, rfl, ite2 (fun e => ?_) (fun e => ?_)⟩⟩⟩
        · have e4 : s.2 = 0 - t.2 := V.int.inj (of_decide_eq_true e)
          refine ⟨_, _, rfl, rfl, ?_⟩
          exact mk_slide (s := (-1, 0)) (.inr rfl) hM (q.some (by unfold linkS; rw [if_neg e1, if_neg e2, if_neg e3, if_pos e4]))
        · have e4 : ¬ s.2 = 0 - t.2 := fun z => e (decide_eq_true (congrArg V.int z))
          exact q.non hM (by unfold linkS; rw [if_neg e1, if_neg e2, if_neg e3, if_neg e4])
theorem ok_slide_alike (T : Txt K mg a) : FnOk P w K mg base CX0 6 a.f_slide_alike a.d_slide_alike ["one", "other"] (spLink a.C_Slide) := by
  refine T.F_slide_alike.ok sc_slide_alike (len2 rfl) (fun cdv A outer s H vs Q E hr h => ?_)
  obtain ⟨_, _, rfl, M, s, t, hM, h1, h2, q⟩ := h
  exact ⟨_, (pss_cons (ps_expr (pe_call (ok_check_slides T) (hr.mono (by decide)) (by rfl) T.g_check_slides T.F_check_slides.kp T.b_check_slides .nil pass0 (pa_cons (pv 0) (pa_cons (pv 1) pa_nil))))
      (pss_one (ps_ret (pe_call (ok_slide_link T) (hr.mono (by decide)) (by rfl) T.g_slide_link T.F_slide_link.kp T.b_slide_link .nil pass0 (pa_cons (pv 0) (pa_cons (pv 1) pa_nil)))))), _, rfl, _, rfl, _, _, rfl, s, t, h1.mono hM, h2.mono hM, _, rfl, _, rfl, _, _, rfl, M, s, t, hM, h1, h2, q⟩
/-- a truth value, the heap grown -/
def Say (M H : Hp) (b : Bool) (Q : VK) : Prop := ∀ M' H', Gr M H M' H' → Q (.bl b) H'
def spIsAlike (C : Addr) : Sp := sp2 fun x y H Q => ∃ M s t, Same M H ∧ Sl C M x s ∧ Sl C M y t ∧ Say M H (linkS s t).isSome Q
theorem ok_is_slide_alike (T : Txt K mg a) : FnOk P w K mg base CX0 6 a.f_is_slide_alike a.d_is_slide_alike ["one", "other"] (spIsAlike a.C_Slide) := by
  refine T.F_is_slide_alike.ok sc_is_slide_alike (len2 rfl) (fun cdv A outer s H vs Q E hr h => ?_)
  obtain ⟨_, _, rfl, M, s, t, hM, h1, h2, q⟩ := h
  refine ⟨_, (pss_cons (ps_expr (pe_call (ok_check_slides T) (hr.mono (by decide)) (by rfl) T.g_check_slides T.F_check_slides.kp T.b_check_slides .nil pass0 (pa_cons (pv 0) (pa_cons (pv 1) pa_nil))))
      (pss_one (ps_ret (pe_cmpR op_notN (pe_call (ok_slide_link T) (hr.mono (by decide)) (by rfl) T.g_slide_link T.F_slide_link.kp T.b_slide_link .nil pass0 (pa_cons (pv 0) (pa_cons (pv 1) pa_nil))) pe_non (nomark _))))), _, rfl, _, rfl, _, _, rfl, s, t, h1.mono hM, h2.mono hM, _, rfl, _, rfl, _, _, rfl, M, s, t, hM, h1, h2, fun r M1 H1 g1 k1 => ⟨rfl, ?_⟩⟩
  have z : (!decide (r = V.non)) = (linkS s t).isSome := by
    cases e : linkS s t with
    | none =>
      rw [e] at k1
      have k : r = .non := k1
      subst k
      decide
    | some c =>
      rw [e] at k1
      obtain ⟨p, dx, rfl, _⟩ := (show Sl a.C_Slide M1 r c from k1)
      rfl
  have q1 := q M1 H1 g1
  rw [← z] at q1
  exact q1
def spCommute (C : Addr) : Sp := sp2 fun x y H Q => ∃ M s t, Same M H ∧ Sl C M x s ∧ Sl C M y t ∧ (thenS s t).2.natAbs < 10 ^ 300 ∧ (thenS t s).2.natAbs < 10 ^ 300 ∧ Say M H (decide (thenS s t = thenS t s)) Q
theorem ok_do_slides_commute (T : Txt K mg a) : FnOk P w K mg base CX0 6 a.f_do_slides_commute a.d_do_slides_commute ["one", "other"] (spCommute a.C_Slide) := by
  refine T.F_do_slides_commute.ok sc_do_slides_commute (len2 rfl) (fun cdv A outer s H vs Q E hr h => ?_)
  obtain ⟨_, _, rfl, M, s, t, hM, h1, h2, b1, b2, q⟩ := h
  refine ⟨_, (pss_cons (ps_expr (pe_call (ok_check_slides T) (hr.mono (by decide)) (by rfl) T.g_check_slides T.F_check_slides.kp T.b_check_slides .nil pass0 (pa_cons (pv 0) (pa_cons (pv 1) pa_nil))))
      (pss_one (ps_ret (pe_cmpR (op_eqOwn T.e_Slide (ok_Slide_eq T) (hr.mono (by decide)) T.b_Slide_eq pass0) (pe_call (ok_put_slides T) (hr.mono (by decide)) (by rfl) T.g_put_slides T.F_put_slides.kp T.b_put_slides .nil pass0 (pa_cons (pv 0) (pa_cons (pv 1) pa_nil))) (pe_call (ok_put_slides T) (hr.mono (by decide)) (by rfl) T.g_put_slides T.F_put_slides.kp T.b_put_slides .nil pass0 (pa_cons (pv 1) (pa_cons (pv 0) pa_nil))) (nomark _))))), _, rfl, _, rfl, _, _, rfl, s, t, h1.mono hM, h2.mono hM, ?_⟩
  refine ⟨_, rfl, _, rfl, _, _, rfl, M, s, t, hM, h1, h2, fun r1 M1 H1 g1 k1 => ?_⟩
  refine ⟨_, rfl, _, rfl, _, _, rfl, M1, t, s, g1.inn, h2.mono g1.ex, h1.mono g1.ex, fun r2 M2 H2 g2 k2 => ?_⟩
  have k1' := (k1.mono g2.ex).mono g2.inn
  have k2' := k2.mono g2.inn
  obtain ⟨p, dx, rfl, hp, hs⟩ := id k1'
  obtain ⟨p2, dx2, rfl, hp2, hs2⟩ := id k2'
  refine ⟨p, dx, _, rfl, hp, T.o_Slide.rgt hp2, _, _, rfl, _, _, k1', k2', b1, b2, _, rfl, ?_⟩
  rw [text_dec k1.unit k2.unit]
  exact q M2 H2 (g1.trans g2)
def rootS (s : S2) (m : Int) : Option S2 := if s.1 < 0 then (if m % 2 = 1 then some s else none) else if s.2 % m = 0 then some (1, s.2 / m) else none
def spRoot (C : Addr) : Sp := sp2 fun x y H Q => ∃ M s m, Same M H ∧ Sl C M x s ∧ y = .int m ∧ 1 ≤ m ∧ m.natAbs < 10 ^ 100 ∧ OptNew C M H (rootS s m) Q
theorem ok_slide_root (T : Txt K mg a) : FnOk P w K mg base CX0 5 a.f_slide_root a.d_slide_root ["one", "degree"] (spRoot a.C_Slide) := by
  refine T.F_slide_root.ok sc_slide_root (len2 rfl) (fun cdv A outer s H vs Q E hr h => ?_)
  obtain ⟨_, _, rfl, M, s, m, hM, h1, rfl, hm, hb, q⟩ := h
  have k1 := h1.mono hM
  have m0 : ¬ m < 1 := by omega
  refine ⟨_, (pss_cons (ps_expr (pe_call (ok_check_slide T) (hr.mono (by decide)) (by rfl) T.g_check_slide T.F_check_slide.kp T.b_check_slide .nil pass0 (pa_cons (pv 0) pa_nil)))
      (pss_cons (ps_if (PW.pt (pw_or (pt_not (pt_val (pe_call (ok_is_integer T) (hr.mono (by decide)) (by rfl) T.g_is_integer T.F_is_integer.kp T.b_is_integer .nil pass0 (pa_cons (pv 1) pa_nil)))) (pw_or1 (pt_cmpR op_lt (pv 1) pe_int (nomark _)))))
      (pss_one ps_never) pss_nil)
      (pss_cons (ps_if (pt_cmpR op_lt (pe_prop (pv 0) T.o_Slide.cl T.p_Slide_side (ok_Slide_side T) (hr.mono (by decide)) T.b_Slide_side .nil pass0 rfl) pe_int (nomark _))
      (pss_one (ps_ret (pe_ifExp (pt_cmpR op_eq (pe_op op_mod (pv 1) pe_int) pe_int (nomark _)) (pv 0) pe_non))) pss_nil)
      (pss_one (ps_ret (pe_ifExp (pt_cmpR op_eq (pe_op op_mod (pe_prop (pv 0) T.o_Slide.cl T.p_Slide_shift (ok_Slide_shift T) (hr.mono (by decide)) T.b_Slide_shift .nil pass0 rfl) (pv 1)) pe_int (nomark _)) (pe_make T.m_Slide (ok_Slide_init T) (hr.mono (by decide)) (by rfl) T.g_Slide T.b_Slide_init .nil pass0 (pa_cons pe_int (pa_cons (pe_op op_fdivW (pe_prop (pv 0) T.o_Slide.cl T.p_Slide_shift (ok_Slide_shift T) (hr.mono (by decide)) T.b_Slide_shift .nil pass0 rfl) (pv 1)) pa_nil))) pe_non)))))), _, rfl, _, rfl, s, k1, _, rfl, _, rfl, m, rfl, _, rfl, iteF ⟨_, rfl, _, _, rfl, rfl, false, ?_, iteF ?_⟩⟩
  · show V.bl (decide (m < 1)) = V.bl false
    rw [decide_eq_false m0]
  · refine ⟨_, rfl, rd_side k1 ⟨_, _, rfl, rfl, _, rfl, ite2 (fun e => ?_) (fun e => ?_)⟩⟩
    · have e1 : s.1 < 0 := of_decide_eq_true e
      refine ⟨_, rfl, _, _, rfl, rfl, (by show (0 : Int) < 2; decide), rfl, _, rfl, ite2 (fun e => ?_) (fun e => ?_)⟩
      · have e2 : m % 2 = 1 := V.int.inj (of_decide_eq_true e)
        have z := q.some (s := s) (by unfold rootS; rw [if_pos e1, if_pos e2])
        exact ⟨_, rfl, z _ M H (Gr.refl hM) h1⟩
      · have e2 : ¬ m % 2 = 1 := fun z => e (decide_eq_true (congrArg V.int z))
        exact q.non hM (by unfold rootS; rw [if_pos e1, if_neg e2])
    · have e1 : ¬ s.1 < 0 := fun z => e (decide_eq_true z)
      refine ⟨_, rfl, rd_shift k1 ⟨_, rfl, _, _, rfl, rfl, (by omega), rfl, _, rfl, ite2 (fun e => ?_) (fun e => ?_)⟩⟩
      · have e2 : s.2 % m = 0 := V.int.inj (of_decide_eq_true e)
        refine ⟨_, rfl, rd_shift k1 ⟨_, rfl, _, _, rfl, rfl, wide_div (b := 400) (by omega) (Nat.lt_trans hb (by decide +kernel)) (by decide) (by decide), ?_⟩⟩
        exact mk_slide (s := (1, s.2 / m)) (.inl rfl) hM (q.some (by unfold rootS; rw [if_neg e1, if_pos e2]))
      · have e2 : ¬ s.2 % m = 0 := fun z => e (decide_eq_true (congrArg V.int z))
        exact q.non hM (by unfold rootS; rw [if_neg e1, if_neg e2])
end

end K33

namespace K33
open PySem PySem.Spec PyProof.Rows L2 Own
section
variable {P : Program} {w : World} {K : PySem.W.Frag} {mg : Str → Option Value} {base : Heap} {a : Ad}
/-! ### put otherwise -/
def putS (h s : S2) : S2 := thenS (thenS h s) (undS h)
theorem bd_put {n m : Nat} {h s : S2} (bh : Bd n h) (bs : Bd m s) : Bd (n + m + n) (putS h s) := bd_then (bd_then bh bs) (bd_und bh)
theorem put_pos (f : Int) {s : S2} (hs : UnitS s) : putS (1, f) s = if s.1 = 1 then (1, s.2) else (-1, s.2 + 2 * f) := by
  obtain ⟨x, n⟩ := s
  rcases hs with e | e <;> simp only at e <;> subst e <;> simp only [putS, thenS, undS] <;> simp <;> omega
theorem put_neg (f : Int) {s : S2} (hs : UnitS s) : putS (-1, f) s = if s.1 = 1 then (1, -s.2) else (-1, 2 * f - s.2) := by
  obtain ⟨x, n⟩ := s
  rcases hs with e | e <;> simp only at e <;> subst e <;> simp only [putS, thenS, undS] <;> simp <;> omega
theorem link_of_put {f : Int} {s t : S2} (hs : UnitS s) (h : t = putS (1, f) s ∨ t = putS (-1, f) s) : (linkS s t).isSome = true := by
  obtain ⟨x, n⟩ := s
  obtain ⟨y, m⟩ := t
  rw [put_pos f hs, put_neg f hs] at h
  rcases hs with e | e <;> simp only at e <;> subst e
  · simp only [if_true, Prod.mk.injEq] at h
    unfold linkS
    rcases h with ⟨h1, h2⟩ | ⟨h1, h2⟩ <;> subst h1 <;> subst h2
    · simp
    · simp only [ne_eq, not_true_eq_false, if_false]
      rw [if_neg (by decide)]
      split
      · rfl
      · rw [if_pos (by omega)]; rfl
  · rw [if_neg (by show ¬ ((-1 : Int) = 1); decide), if_neg (by show ¬ ((-1 : Int) = 1); decide)] at h
    simp only [Prod.mk.injEq] at h
    unfold linkS
    rcases h with ⟨h1, h2⟩ | ⟨h1, h2⟩ <;> subst h1 <;> subst h2
    · simp only [ne_eq, not_true_eq_false, if_false]
      rw [if_pos (by decide), if_pos (by omega)]; rfl
    · simp only [ne_eq, not_true_eq_false, if_false]
      rw [if_pos (by decide), if_pos (by omega)]; rfl
theorem put_of_link {s t c : S2} (hs : UnitS s) (h : linkS s t = some c) : putS c s = t ∧ UnitS c ∧ (c.1 = -1 → c.2 = 0) ∧ (c.1 = 1 → c.2.natAbs ≤ s.2.natAbs + t.2.natAbs) := by
  obtain ⟨x, n⟩ := s
  obtain ⟨y, m⟩ := t
  unfold linkS at h
  simp only at h
  split at h
  · cases h
  · rename_i e
    have e' : x = y := Classical.not_not.mp e
    subst e'
    split at h
    · split at h
      · rename_i e1 e2
        cases h
        have ex : x = -1 := by rcases hs with z | z <;> simp only at z <;> omega
        subst ex
        refine ⟨?_, .inl rfl, fun z => absurd z (by show ¬ ((1 : Int) = -1); decide), fun _ => by simp only; omega⟩
        rw [put_pos _ hs, if_neg (by show ¬ ((-1 : Int) = 1); decide)]
        simp only [Prod.mk.injEq, true_and]
        omega
      · cases h
    · rename_i e1
      have ex : x = 1 := by rcases hs with z | z <;> simp only at z <;> omega
      subst ex
      split at h
      · rename_i e2
        cases h
        refine ⟨?_, .inl rfl, fun z => absurd z (by decide), fun _ => Nat.zero_le _⟩
        rw [put_pos _ hs, if_pos rfl, e2]
      · split at h
        · rename_i e2 e3
          cases h
          refine ⟨?_, .inr rfl, fun _ => rfl, fun z => absurd z (by decide)⟩
          rw [put_neg _ hs, if_pos rfl]
          simp only [Prod.mk.injEq, true_and]
          omega
        · cases h
theorem near_of_link {s t : S2} (hs : UnitS s) (b1 : s.2.natAbs ≤ 12) (b2 : t.2.natAbs ≤ 12) (h : (linkS s t).isSome = true) :
    ∃ k : Nat, k < 27 ∧ (t = putS (1, -13 + (k : Int)) s ∨ t = putS (-1, -13 + (k : Int)) s) := by
  obtain ⟨c, hc⟩ := Option.isSome_iff_exists.mp h
  have hb : (t.2 - s.2) / 2 ≤ 12 ∧ -12 ≤ (t.2 - s.2) / 2 := by omega
  obtain ⟨p, uc, n1, _⟩ := put_of_link hs hc
  rcases uc with e | e
  · -- a shift
    have c2 : c.2 = 0 ∨ c.2 = (t.2 - s.2) / 2 := by
      unfold linkS at hc
      split at hc
      · cases hc
      · split at hc
        · split at hc
          · cases hc; exact .inr rfl
          · cases hc
        · split at hc
          · cases hc; exact .inl rfl
          · split at hc
            · cases hc; exact absurd e (by decide)
            · cases hc
    refine ⟨(c.2 + 13).toNat, by omega, .inl ?_⟩
    rw [show -13 + (((c.2 + 13).toNat : Nat) : Int) = c.2 by omega, ← p]
    obtain ⟨x, y⟩ := c
    simp only at e
    subst e
    rfl
  · have e2 := n1 e
    refine ⟨13, by decide, .inr ?_⟩
    rw [← p]
    obtain ⟨x, y⟩ := c
    simp only at e e2
    subst e
    subst e2
    rfl
def spPut2 : Sp := sp2 fun x y H Q => ∃ M s t, Same M H ∧ PairAt M x s ∧ PairAt M y t ∧ UnitS s ∧ UnitS t ∧ NewP M H (putS s t) Q
theorem ok_l_put (T : Txt K mg a) : FnOk P w K mg base CX0 2 a.f_l_put a.d_l_put ["_law_how", "_law_near"] spPut2 := by
  refine T.F_l_put.ok sc_l_put (len2 rfl) (fun cdv A outer s H vs Q E hr h => ?_)
  obtain ⟨_, _, rfl, M, s, t, hM, h1, h2, us, ut, q⟩ := h
  refine ⟨_, (pss_one (ps_ret (pe_call (ok_l_then T) (hr.mono (by decide)) (by rfl) T.g_l_then T.F_l_then.kp T.b_l_then .nil pass0 (pa_cons (pe_call (ok_l_then T) (hr.mono (by decide)) (by rfl) T.g_l_then T.F_l_then.kp T.b_l_then .nil pass0 (pa_cons (pv 0) (pa_cons (pv 1) pa_nil))) (pa_cons (pe_call (ok_l_undone T) (hr.mono (by decide)) (by rfl) T.g_l_undone T.F_l_undone.kp T.b_l_undone .nil pass0 (pa_cons (pv 0) pa_nil)) pa_nil))))), _, rfl, _, rfl, _, _, rfl, M, s, t, hM, h1, h2, us, fun r1 M1 H1 g1 k1 => ?_⟩
  refine ⟨_, rfl, _, rfl, M1, s, g1.inn, h1.mono g1.ex, us, fun r2 M2 H2 g2 k2 => ?_⟩
  refine ⟨_, _, rfl, M2, _, _, g2.inn, k1.mono g2.ex, k2, unit_then us ut, fun r3 M3 H3 g3 k3 => ?_⟩
  exact q r3 M3 H3 ((g1.trans g2).trans g3) k3
theorem sh_l2 (s t : S2) : SeqAt.shaped (.list [dS s, dS t]) = true := rfl
def spIsLike : Sp := sp2 fun x y H Q => ∃ M s t, Same M H ∧ PairAt M x s ∧ PairAt M y t ∧ UnitS s ∧ UnitS t ∧ Say M H (linkS s t).isSome Q
theorem Say.to {M H : Hp} {b c : Bool} {Q : VK} (h : Say M H b Q) (e : b = c) : Say M H c Q := e ▸ h
theorem Say.here {M H : Hp} {b : Bool} {Q : VK} (h : Say M H b Q) (hM : Same M H) : Q (.bl b) H := h M H (Gr.refl hM)
theorem ok_l_is_like (T : Txt K mg a) : FnOk P w K mg base CX0 3 a.f_l_is_like a.d_l_is_like ["_law_near", "_law_late"] spIsLike := by
  refine T.F_l_is_like.ok sc_l_is_like (len2 rfl) (fun cdv A outer s H vs Q E hr h => ?_)
  obtain ⟨x0, y0, rfl, M, s, t, hM, h1, h2, us, ut, q⟩ := h
  have k1 := h1.mono hM
  have k2 := h2.mono hM
  refine ⟨_, (pss_cons (ps_if (pt_cmpR op_gt (pe_callB (call_max2 rfl) (by rfl) T.z_max (by decide +kernel) (pa_cons (pe_callB call_abs (by rfl) T.z_abs (by decide +kernel) (pa_cons (pe_ix ix_tup (pv 0) pe_int (fun _ _ => rfl)) pa_nil)) (pa_cons (pe_callB call_abs (by rfl) T.z_abs (by decide +kernel) (pa_cons (pe_ix ix_tup (pv 1) pe_int (fun _ _ => rfl)) pa_nil)) pa_nil))) pe_int (nomark _))
      (pss_cons (ps_if (pt_cmpR op_ne (pe_ix ix_tup (pv 0) pe_int (fun _ _ => rfl)) (pe_ix ix_tup (pv 1) pe_int (fun _ _ => rfl)) (nomark _))
      (pss_one (ps_ret pe_bl)) pss_nil)
      (pss_one (ps_ret (pe_ifExp (pt_cmpR op_eq (pe_ix ix_tup (pv 0) pe_int (fun _ _ => rfl)) pe_int (nomark _)) (pe_cmpR op_eq (pe_callB call_abs (by rfl) T.z_abs (by decide +kernel) (pa_cons (pe_ix ix_tup (pv 0) pe_int (fun _ _ => rfl)) pa_nil)) (pe_callB call_abs (by rfl) T.z_abs (by decide +kernel) (pa_cons (pe_ix ix_tup (pv 1) pe_int (fun _ _ => rfl)) pa_nil)) (nomark _)) (pe_cmpR op_eq (pe_op op_mod (pe_callTy call_int1 (by rfl) T.z_int (by decide +kernel) (pa_cons (pe_op op_sub (pe_ix ix_tup (pv 0) pe_int (fun _ _ => rfl)) (pe_ix ix_tup (pv 1) pe_int (fun _ _ => rfl))) pa_nil)) pe_int) pe_int (nomark _)))))) pss_nil)
      (pss_cons (ps_for PassesOwn.never rfl (pi_range2 (by rfl) T.z_range (pa_cons (pe_un un_neg pe_int) (pa_cons pe_int pa_nil))) (pg_name (i := 2) sc_l_is_like.nd rfl (.inl rfl))
      (pss_one (ps_if (pt_cmpR (op_inD (u65 hr)) (pv 1) (pe_lst (pa_cons (pe_call (ok_l_put T) (hr.mono (by decide)) (by rfl) T.g_l_put T.F_l_put.kp T.b_l_put .nil pass0 (pa_cons (pe_tup (pa_cons pe_int (pa_cons (pv 2) pa_nil))) (pa_cons (pv 0) pa_nil))) (pa_cons (pe_call (ok_l_put T) (hr.mono (by decide)) (by rfl) T.g_l_put T.F_l_put.kp T.b_l_put .nil pass0 (pa_cons (pe_tup (pa_cons (pe_un un_neg pe_int) (pa_cons (pv 2) pa_nil))) (pa_cons (pv 0) pa_nil))) pa_nil))) (by rfl))
      (pss_one (ps_ret pe_bl)) pss_nil)))
      (pss_one (ps_ret pe_bl)))), _, rfl, rd_p1 k1 ⟨_, rfl, _, rfl, rd_p1 k2 ⟨_, rfl, _, _, rfl, _, _, rfl, rfl, _, rfl, ite2 (fun e => ?_) (fun e => ?_)⟩⟩⟩
  · -- great ones
    refine ⟨_, rfl, rd_p0 k1 ⟨_, rfl, rd_p0 k2 ⟨rfl, _, rfl, ite2 (fun e => ?_) (fun e => ?_)⟩⟩⟩
    · have e1 : s.1 ≠ t.1 := fun z => by rw [z] at e; simp at e
      exact (q.to (show (linkS s t).isSome = false by unfold linkS; rw [if_pos e1]; rfl)).here hM
    · have e1 : ¬ s.1 ≠ t.1 := fun z => e (by simp [z])
      refine ⟨_, rfl, rd_p0 k1 ⟨rfl, _, rfl, ite2 (fun e => ?_) (fun e => ?_)⟩⟩
      · have e2 : s.1 = 1 := V.int.inj (of_decide_eq_true e)
        refine ⟨_, rfl, rd_p1 k1 ⟨_, rfl, _, rfl, rd_p1 k2 ⟨_, rfl, rfl, ?_⟩⟩⟩
        refine (q.to ?_).here hM
        unfold linkS
        rw [if_neg e1, if_neg (by omega)]
        by_cases c1 : s.2 = t.2
        · rw [if_pos c1, c1]
          simp
        · rw [if_neg c1]
          by_cases c2 : s.2 = 0 - t.2
          · rw [if_pos c2]
            symm
            rw [Option.isSome_some, decide_eq_true_eq, V.int.injEq]
            split <;> split <;> omega
          · rw [if_neg c2]
            symm
            rw [Option.isSome_none, decide_eq_false_iff_not, V.int.injEq]
            split <;> split <;> omega
      · have e2 : s.1 = -1 := by rcases us with z | z; exact absurd (decide_eq_true (congrArg V.int z)) e; exact z
        refine ⟨_, rfl, rd_p1 k1 ⟨_, rfl, rd_p1 k2 ⟨_, _, rfl, rfl, .inl ⟨_, rfl, _, _, rfl, rfl, (by show (0 : Int) < 2; decide), rfl, ?_⟩⟩⟩⟩
        refine (q.to ?_).here hM
        unfold linkS
        rw [if_neg e1, if_pos (by omega)]
        by_cases c1 : (t.2 - s.2) % 2 = 0
        · rw [if_pos c1, Option.isSome_some, eq_comm, decide_eq_true_eq, V.int.injEq]
          omega
        · rw [if_neg c1, Option.isSome_none, eq_comm, decide_eq_false_iff_not, V.int.injEq]
          omega
  · -- small ones
    have b12 : s.2.natAbs ≤ 12 ∧ t.2.natAbs ≤ 12 := by
      have z : ¬ (12 : Int) < (if (if t.2 < 0 then -t.2 else t.2) > (if s.2 < 0 then -s.2 else s.2) then (if t.2 < 0 then -t.2 else t.2) else (if s.2 < 0 then -s.2 else s.2)) := fun z => e (decide_eq_true z)
      revert z
      split <;> split <;> split <;> intro z <;> constructor <;> omega
    refine ⟨_, rfl, -13, 14, rfl, ⟨by decide, by decide, by decide, by decide⟩, ?_⟩
    refine for_range (lo := -13) (n := 27) (fun i σ H' => ∃ M' y, σ = [some x0, some y0, y] ∧ Gr M H M' H' ∧ ∀ k : Nat, k < i → ¬ (t = putS (1, -13 + (k : Int)) s ∨ t = putS (-1, -13 + (k : Int)) s)) ⟨M, none, rfl, Gr.refl hM, fun k h => absurd h (Nat.not_lt_zero _)⟩ ?_ ?_
    · rintro i σ H' hi ⟨M', y, rfl, g, no⟩
      have near := h1.mono g.ex
      have late := h2.mono g.ex
      refine ⟨_, rfl, _, rfl, ?_⟩
      refine ⟨szL rfl, fun p1 pn1 => ?_⟩
      generalize e1 : upd H' p1 _ = H1
      obtain ⟨M1, g1, hp1⟩ := new_of e1 g.inn pn1
      have f1 : PairAt M1 (.ref p1) (1, -13 + (i : Int)) := ⟨p1, rfl, hp1⟩
      replace near := near.mono g1.ex
      replace late := late.mono g1.ex
      refine ⟨_, rfl, _, _, rfl, M1, _, _, g1.inn, f1, near, .inl rfl, us, fun r2 M2 H2 g2 k2' => ?_⟩
      replace near := near.mono g2.ex
      replace late := late.mono g2.ex
      refine ⟨_, rfl, _, rfl, ?_⟩
      refine ⟨szL rfl, fun p3 pn3 => ?_⟩
      generalize e3 : upd H2 p3 _ = H3
      obtain ⟨M3, g3, hp3⟩ := new_of e3 g2.inn pn3
      have f3 : PairAt M3 (.ref p3) (-1, -13 + (i : Int)) := ⟨p3, rfl, hp3⟩
      replace near := near.mono g3.ex
      replace late := late.mono g3.ex
      replace k2' := k2'.mono g3.ex
      refine ⟨_, rfl, _, _, rfl, M3, _, _, g3.inn, f3, near, .inr rfl, us, fun r4 M4 H4 g4 k4 => ?_⟩
      replace near := near.mono g4.ex
      replace late := late.mono g4.ex
      replace k2' := k2'.mono g4.ex
      refine ⟨szL rfl, fun p5 pn5 => ?_⟩
      generalize e5 : upd H4 p5 _ = H5
      obtain ⟨M5, g5, hp5⟩ := new_of e5 g4.inn pn5
      replace near := near.mono g5.ex
      replace late := late.mono g5.ex
      replace k2' := k2'.mono g5.ex
      replace k4 := k4.mono g5.ex
      have gg : Gr M H M5 H5 := ((((g.trans g1).trans g2).trans g3).trans g4).trans g5
      have inn := g5.inn
      refine ⟨dS t, _, (late.mono inn).dp, dp2 (inn _ _ hp5) (k2'.mono inn).dp (k4.mono inn).dp, sh_dS _, sh_l2 _ _, _, rfl, ?_⟩
      have z : ([dS (putS (1, -13 + (i : Int)) s), dS (putS (-1, -13 + (i : Int)) s)].any fun z => PyData.eqv z (dS t)) = decide (t = putS (1, -13 + (i : Int)) s ∨ t = putS (-1, -13 + (i : Int)) s) := by
        rw [List.any_cons, List.any_cons, List.any_nil, eqv_dS, eqv_dS, Bool.or_false, ← Bool.decide_or]
        simp only [eq_comm]
      rw [z]
      refine ite2 (fun e => ?_) (fun e => ?_)
      · have e' := of_decide_eq_true e
        rw [link_of_put us e'] at q
        exact q M5 H5 gg
      · refine ⟨M5, _, rfl, gg, fun k hk => ?_⟩
        rcases Nat.lt_succ_iff_lt_or_eq.mp hk with h | h
        · exact no k h
        · subst h
          exact fun z => e (decide_eq_true z)
    · rintro σ H' ⟨M', y, rfl, g, no⟩
      have z : (linkS s t).isSome = false := by
        cases c : (linkS s t).isSome with
        | false => rfl
        | true =>
          obtain ⟨k, hk, e⟩ := near_of_link us b12.1 b12.2 c
          exact absurd e (no k hk)
      rw [z] at q
      exact q M' H' g
end

end K33

namespace K33
open PySem PySem.Spec PyProof.Rows L2 Own
section
variable {P : Program} {w : World} {K : PySem.W.Frag} {mg : Str → Option Value} {base : Heap} {a : Ad}
/-- pairs, one beside another -/
def PairAll (M : Hp) : List V → List S2 → Prop
  | [], [] => True
  | x :: xs, s :: ss => PairAt M x s ∧ PairAll M xs ss
  | _, _ => False
theorem PairAll.mono {M M1 : Hp} (e : Same M M1) : ∀ {xs : List V} {ss : List S2}, PairAll M xs ss → PairAll M1 xs ss
  | [], [], _ => trivial
  | _ :: _, _ :: _, h => ⟨h.1.mono e, PairAll.mono e h.2⟩
  | [], _ :: _, h => h.elim
  | _ :: _, [], h => h.elim
theorem PairAll.append {M : Hp} : ∀ {xs ys : List V} {ss ts : List S2}, PairAll M xs ss → PairAll M ys ts → PairAll M (xs ++ ys) (ss ++ ts)
  | [], _, [], _, _, k => k
  | _ :: _, _, _ :: _, _, h, k => ⟨h.1, PairAll.append h.2 k⟩
  | [], _, _ :: _, _, h, _ => h.elim
  | _ :: _, _, [], _, h, _ => h.elim
theorem PairAll.len {M : Hp} : ∀ {xs : List V} {ss : List S2}, PairAll M xs ss → xs.length = ss.length
  | [], [], _ => rfl
  | _ :: _, _ :: _, k => congrArg (· + 1) (PairAll.len k.2)
  | [], _ :: _, k => k.elim
  | _ :: _, [], k => k.elim
theorem PairAll.get {M : Hp} : ∀ {xs : List V} {ss : List S2}, PairAll M xs ss → ∀ {i : Nat} {x : V}, xs[i]? = some x → ∃ s, ss[i]? = some s ∧ PairAt M x s
  | [], [], _, i, x, h => by simp at h
  | y :: _, s :: _, k, 0, x, h => by
    simp at h
    subst h
    exact ⟨s, rfl, k.1⟩
  | _ :: _, _ :: _, k, i + 1, x, h => PairAll.get k.2 (i := i) h
  | [], _ :: _, k, _, _, _ => k.elim
  | _ :: _, [], k, _, _, _ => k.elim
theorem PairAll.dp {M : Hp} : ∀ {xs : List V} {ss : List S2}, PairAll M xs ss → DpAll K M xs (ss.map dS)
  | [], [], _ => .nil
  | _ :: _, _ :: _, k => .cons k.1.dp (PairAll.dp k.2)
  | [], _ :: _, k => k.elim
  | _ :: _, [], k => k.elim
theorem sh_pairs (ss : List S2) : SeqAt.shaped (.list (ss.map dS)) = true := by
  have e1 : PyData.canLay0 (.list (ss.map dS)) = true := by
    have : ∀ ss : List S2, PyData.canLayAll0 (ss.map dS) = true := by
      intro ss
      induction ss with
      | nil => rfl
      | cons s r ih =>
        rw [List.map_cons]
        show (PyData.canLay0 (dS s) && PyData.canLayAll0 (r.map dS)) = true
        rw [ih]
        rfl
    exact this ss
  have e2 : PyData.depth (.list (ss.map dS)) ≤ 64 := by
    have : ∀ ss : List S2, PyData.depthAll (ss.map dS) ≤ 1 := by
      intro ss
      induction ss with
      | nil => exact Nat.zero_le _
      | cons s r ih =>
        rw [List.map_cons]
        show max (PyData.depth (dS s)) (PyData.depthAll (r.map dS)) ≤ 1
        exact Nat.max_le.mpr ⟨Nat.le_refl _, ih⟩
    have := this ss
    show PyData.depthAll (ss.map dS) + 1 ≤ 64
    omega
  unfold SeqAt.shaped
  rw [e1, decide_eq_true e2]
  rfl
theorem any_dS (ss : List S2) (s : S2) : ((ss.map dS).any fun z => PyData.eqv z (dS s)) = ss.any fun z => decide (z = s) := by
  rw [List.any_map]
  congr 1
  funext z
  exact eqv_dS z s
/-! ### roots among few -/
def rowL (x : Int) (n : Nat) : List S2 := (List.range n).map fun (i : Nat) => (x, -12 + (i : Int))
def boxL : List S2 := rowL 1 25 ++ rowL (-1) 25
theorem box_mem {e : S2} : e ∈ boxL ↔ (e.1 = 1 ∨ e.1 = -1) ∧ -12 ≤ e.2 ∧ e.2 ≤ 12 := by
  unfold boxL rowL
  simp only [List.mem_append, List.mem_map, List.mem_range]
  constructor
  · rintro (⟨i, hi, rfl⟩ | ⟨i, hi, rfl⟩)
    · exact ⟨.inl rfl, by simp only; omega, by simp only; omega⟩
    · exact ⟨.inr rfl, by simp only; omega, by simp only; omega⟩
  · obtain ⟨x, y⟩ := e
    rintro ⟨h, h1, h2⟩
    simp only at h h1 h2
    rcases h with rfl | rfl
    · exact .inl ⟨(y + 12).toNat, by omega, by rw [Prod.mk.injEq]; exact ⟨rfl, by omega⟩⟩
    · exact .inr ⟨(y + 12).toNat, by omega, by rw [Prod.mk.injEq]; exact ⟨rfl, by omega⟩⟩
theorem root_of_box {s e : S2} {m : Int} (us : UnitS s) (hm : 1 ≤ m) (he : UnitS e) (h : oftS e m = s) : (rootS s m).isSome = true := by
  subst h
  unfold rootS
  rcases he with z | z
  · rw [oft_pos z]
    rw [if_neg (by show ¬ ((1 : Int) < 0); decide), if_pos (by simp)]
    rfl
  · by_cases k : m % 2 = 1
    · rw [oft_odd z k, if_pos (by omega), if_pos k]
      rfl
    · rw [oft_even z k, if_neg (by decide), if_pos (by simp)]
      rfl
theorem root_is {s c : S2} {m : Int} (us : UnitS s) (hm : 1 ≤ m) (h : rootS s m = some c) : oftS c m = s ∧ UnitS c ∧ c.2.natAbs ≤ s.2.natAbs := by
  obtain ⟨x, n⟩ := s
  unfold rootS at h
  simp only at h
  split at h
  · split at h
    · rename_i e k
      cases h
      have z : x = -1 := by rcases us with z | z <;> simp only at z <;> omega
      exact ⟨oft_odd z k, us, Nat.le_refl _⟩
    · cases h
  · split at h
    · rename_i e k
      cases h
      have z : x = 1 := by rcases us with z | z <;> simp only at z <;> omega
      subst z
      refine ⟨?_, .inl rfl, ?_⟩
      · rw [oft_pos rfl]
        have := Int.ediv_mul_cancel (Int.dvd_of_emod_eq_zero k)
        simp only [this]
      · have := Int.natAbs_ediv_le_natAbs n m
        exact this
    · cases h
theorem box_root {s : S2} {m : Int} (us : UnitS s) (hm : 1 ≤ m) (hb : s.2.natAbs ≤ 12) : ((boxL.map fun e => oftS e m).any fun z => decide (z = s)) = (rootS s m).isSome := by
  cases h : (rootS s m).isSome with
  | true =>
    obtain ⟨c, hc⟩ := Option.isSome_iff_exists.mp h
    obtain ⟨h1, h2, h3⟩ := root_is us hm hc
    rw [List.any_eq_true]
    refine ⟨s, ?_, decide_eq_true rfl⟩
    rw [List.mem_map]
    exact ⟨c, box_mem.mpr ⟨h2, by omega, by omega⟩, h1⟩
  | false =>
    rw [List.any_eq_false]
    intro z hz
    rw [List.mem_map] at hz
    obtain ⟨e, he, rfl⟩ := hz
    intro k
    have k' := of_decide_eq_true k
    rw [root_of_box us hm (box_mem.mp he).1 k'] at h
    cases h
def spHasRoot : Sp := sp2 fun x y H Q => ∃ M s m, Same M H ∧ PairAt M x s ∧ y = .int m ∧ UnitS s ∧ 1 ≤ m ∧ m.natAbs < 10 ^ 100 ∧ Say M H (rootS s m).isSome Q
theorem ok_l_has_root (T : Txt K mg a) : FnOk P w K mg base CX0 3 a.f_l_has_root a.d_l_has_root ["_law_near", "_law_many"] spHasRoot := by
  refine T.F_l_has_root.ok sc_l_has_root (len2 rfl) (fun cdv A outer s H vs Q E hr h => ?_)
  obtain ⟨x0, _, rfl, M, s, m, hM, h1, rfl, us, hm, hb, q⟩ := h
  have k1 := h1.mono hM
  refine ⟨_, (pss_cons (ps_if (pt_cmpR op_gt (pe_callB call_abs (by rfl) T.z_abs (by decide +kernel) (pa_cons (pe_ix ix_tup (pv 0) pe_int (fun _ _ => rfl)) pa_nil)) pe_int (nomark _))
      (pss_one (ps_ret (pe_ifExp (pt_cmpR op_eq (pe_ix ix_tup (pv 0) pe_int (fun _ _ => rfl)) pe_int (nomark _)) (pe_cmpR op_eq (pe_op op_mod (pe_callTy call_int1 (by rfl) T.z_int (by decide +kernel) (pa_cons (pe_ix ix_tup (pv 0) pe_int (fun _ _ => rfl)) pa_nil)) (pv 1)) pe_int (nomark _)) (pe_cmpR op_eq (pe_op op_mod (pe_callTy call_int1 (by rfl) T.z_int (by decide +kernel) (pa_cons (pv 1) pa_nil)) pe_int) pe_int (nomark _))))) pss_nil)
      (pss_cons (ps_set (i := 2) sc_l_has_root.nd rfl (.inl rfl) (pe_op op_cat (pe_lc (own := [("_law_far", 3)]) (g := gName 3) (tt := tYes) rfl sc_l_has_root.nd (pi_range2 (by rfl) T.z_range (pa_cons (pe_un un_neg pe_int) (pa_cons pe_int pa_nil))) (blkOk_by (own := [("_law_far", 3)]) (N := ["_law_near", "_law_many", "_law_some", "_law_far", "_law_each"]) (sc := defScope s_l_has_root) (by decide +kernel)) (fun _ _ _ _ _ => (pg_name (i := 3) sc_l_has_root.nd rfl (.inl rfl))) (fun _ _ _ _ _ => pts_nil) (fun _ _ _ _ _ => (pe_tup (pa_cons pe_int (pa_cons (pv 3) pa_nil))))) (pe_lc (own := [("_law_far", 3)]) (g := gName 3) (tt := tYes) rfl sc_l_has_root.nd (pi_range2 (by rfl) T.z_range (pa_cons (pe_un un_neg pe_int) (pa_cons pe_int pa_nil))) (blkOk_by (own := [("_law_far", 3)]) (N := ["_law_near", "_law_many", "_law_some", "_law_far", "_law_each"]) (sc := defScope s_l_has_root) (by decide +kernel)) (fun _ _ _ _ _ => (pg_name (i := 3) sc_l_has_root.nd rfl (.inl rfl))) (fun _ _ _ _ _ => pts_nil) (fun _ _ _ _ _ => (pe_tup (pa_cons (pe_un un_neg pe_int) (pa_cons (pv 3) pa_nil)))))))
      (pss_one (ps_ret (pe_cmpR (op_inD (u65 hr)) (pv 0) (pe_lc (own := [("_law_each", 4)]) (g := gName 4) (tt := tYes) rfl sc_l_has_root.nd (pi_list (pv 2)) (blkOk_by (own := [("_law_each", 4)]) (N := ["_law_near", "_law_many", "_law_some", "_law_far", "_law_each"]) (sc := defScope s_l_has_root) (by decide +kernel)) (fun _ _ _ _ _ => (pg_name (i := 4) sc_l_has_root.nd rfl (.inl rfl))) (fun _ _ _ _ _ => pts_nil) (fun _ _ _ _ _ => (pe_call (ok_l_often T) (hr.mono (by decide)) (by rfl) T.g_l_often T.F_l_often.kp T.b_l_often .nil pass0 (pa_cons (pv 4) (pa_cons (pv 1) pa_nil))))) (by rfl)))))), _, rfl, rd_p1 k1 ⟨_, rfl, _, _, rfl, rfl, _, rfl, ite2 (fun e => ?_) (fun e => ?_)⟩⟩
  · refine ⟨_, rfl, rd_p0 k1 ⟨rfl, _, rfl, ite2 (fun e => ?_) (fun e => ?_)⟩⟩
    · have e1 : s.1 = 1 := V.int.inj (of_decide_eq_true e)
      refine ⟨_, rfl, rd_p1 k1 (.inl ⟨_, rfl, _, rfl, _, _, rfl, rfl, (by omega), rfl, ?_⟩)⟩
      refine (q.to ?_).here hM
      unfold rootS
      rw [if_neg (by omega)]
      by_cases c : s.2 % m = 0
      · rw [if_pos c]
        exact (decide_eq_true (congrArg V.int c)).symm
      · rw [if_neg c]
        exact (decide_eq_false fun z => c (V.int.inj z)).symm
    · have e1 : s.1 = -1 := by rcases us with z | z; exact absurd (decide_eq_true (congrArg V.int z)) e; exact z
      refine ⟨_, rfl, .inl ⟨_, rfl, _, _, rfl, rfl, (by show (0 : Int) < 2; decide), rfl, ?_⟩⟩
      refine (q.to ?_).here hM
      unfold rootS
      rw [if_pos (by omega)]
      by_cases c : m % 2 = 1
      · rw [if_pos c]
        exact (decide_eq_true (congrArg V.int c)).symm
      · rw [if_neg c]
        exact (decide_eq_false fun z => c (V.int.inj z)).symm
  · have b12 : s.2.natAbs ≤ 12 := by
      have z : ¬ (12 : Int) < (if s.2 < 0 then -s.2 else s.2) := fun z => e (decide_eq_true z)
      revert z
      split <;> intro z <;> omega
    -- the first row
    refine ⟨_, rfl, -12, 13, rfl, ⟨by decide, by decide, by decide, by decide⟩, fun D nD => ?_⟩
    refine lc_range (lo := -12) (n := 25) (fun i H' => ∃ M' l, Build M H D l M' H' ∧ PairAll M' l (rowL 1 i)) ⟨M, [], Build.start hM nD, trivial⟩ ?_ ?_
    · rintro i H' hi ⟨M', l, b, pl⟩
      refine ⟨rfl, yes_if ⟨_, rfl, ?_⟩⟩
      refine ⟨szL rfl, fun p1 pn1 => ?_⟩
      generalize e1 : upd H' p1 _ = H1
      obtain ⟨M1, g1, hp1⟩ := new_of e1 b.inn pn1
      have f1 : PairAt M1 (.ref p1) (1, -12 + (i : Int)) := ⟨p1, rfl, hp1⟩
      have b1 := b.grow g1
      refine ⟨l, b1.at_, ?_, M1, _, b1.push _, ?_⟩
      · rw [pl.len]
        unfold rowL
        rw [List.length_map, List.length_range]
        exact small1000 (by omega)
      · unfold rowL
        rw [List.range_succ, List.map_append]
        exact (pl.mono g1.ex).append ⟨f1, trivial⟩
    · rintro H' ⟨M', l, b, pl⟩
      obtain ⟨M2, g2, at2, ex2⟩ := b.done
      -- the second row
      refine ⟨_, rfl, -12, 13, rfl, ⟨by decide, by decide, by decide, by decide⟩, fun D2 nD2 => ?_⟩
      refine lc_range (lo := -12) (n := 25) (fun i H3 => ∃ M3 l3, Build M2 H' D2 l3 M3 H3 ∧ PairAll M3 l3 (rowL (-1) i)) ⟨M2, [], Build.start g2.inn nD2, trivial⟩ ?_ ?_
      · rintro i H3 hi ⟨M3, l3, b3, pl3⟩
        refine ⟨rfl, yes_if ⟨_, rfl, _, rfl, ?_⟩⟩
        refine ⟨szL rfl, fun p4 pn4 => ?_⟩
        generalize e4 : upd H3 p4 _ = H4
        obtain ⟨M4, g4, hp4⟩ := new_of e4 b3.inn pn4
        have f4 : PairAt M4 (.ref p4) (-1, -12 + (i : Int)) := ⟨p4, rfl, hp4⟩
        have b4 := b3.grow g4
        refine ⟨l3, b4.at_, ?_, M4, _, b4.push _, ?_⟩
        · rw [pl3.len]
          unfold rowL
          rw [List.length_map, List.length_range]
          exact small1000 (by omega)
        · unfold rowL
          rw [List.range_succ, List.map_append]
          exact (pl3.mono g4.ex).append ⟨f4, trivial⟩
      · rintro H3 ⟨M3, l3, b3, pl3⟩
        obtain ⟨M5, g5, at5, ex5⟩ := b3.done
        have pa := (pl.mono (ex2.trans g5.ex)).append (pl3.mono ex5)
        have la : (l ++ l3).length = 50 := by rw [pa.len]; rfl
        refine ⟨D, D2, l, l3, rfl, rfl, g5.inn _ _ (g5.ex _ _ at2), g5.inn _ _ at5, by rw [← List.length_append, la, sizeLine_eq]; decide, fun p6 pn6 => ?_⟩
        generalize e6 : upd H3 p6 _ = H6
        obtain ⟨M6, g6, hp6⟩ := new_of e6 g5.inn pn6
        replace pa := pa.mono g6.ex
        have g26 := (g2.trans g5).trans g6
        -- so often
        refine ⟨_, rfl, _, rfl, p6, rfl, ⟨_, SqL.of (g6.inn _ _ hp6)⟩, fun D7 nD7 => ?_⟩
        refine lc_list (xs := l ++ l3) (fun i H8 => ∃ M8 l8, Build M6 H6 D7 l8 M8 H8 ∧ PairAll M8 l8 ((boxL.take i).map fun e => oftS e m)) ⟨M6, [], Build.start g6.inn nD7, trivial⟩ ?_ ?_ ?_
        · rintro i H8 hi ⟨M8, l8, b8, pl8⟩
          exact SqL.of (b8.inn _ _ (b8.ex _ _ hp6))
        · rintro i x H8 hx ⟨M8, l8, b8, pl8⟩
          obtain ⟨ex, hex, kx⟩ := pa.get hx
          have hbox := box_mem.mp (List.mem_of_getElem? hex)
          refine ⟨rfl, yes_if ⟨_, rfl, _, rfl, _, _, rfl, M8, ex, m, b8.inn, kx.mono b8.ex, rfl, hbox.1, Nat.lt_of_le_of_lt (show ex.2.natAbs ≤ 12 by omega) (by decide +kernel), hb, fun r9 M9 H9 g9 k9 => ?_⟩⟩
          have b9 := b8.grow g9
          refine ⟨l8, b9.at_, ?_, M9, _, b9.push _, ?_⟩
          · rw [pl8.len, List.length_map, List.length_take]
            exact small1000 (Nat.le_trans (Nat.min_le_right _ _) (by decide))
          · have hex' : boxL[i]? = some ex := hex
            rw [List.take_add_one, hex', List.map_append]
            exact (pl8.mono g9.ex).append ⟨k9, trivial⟩
        · rintro H8 ⟨M8, l8, b8, pl8⟩
          have pl9 : PairAll M8 l8 (boxL.map fun e => oftS e m) := by
            rw [la, List.take_of_length_le (by decide)] at pl8
            exact pl8
          obtain ⟨M10, g10, at10, ex10⟩ := b8.done
          refine ⟨dS s, _, ((h1.mono (g26.trans g10).ex).mono g10.inn).dp, .lst (SqL.of (g10.inn _ _ at10)) ((pl9.mono ex10).mono g10.inn).dp, sh_dS _, sh_pairs _, ?_⟩
          rw [any_dS, box_root us hm b12]
          exact q M10 H8 (g26.trans g10)
end

end K33

namespace K33
open PySem PySem.Spec PyProof.Rows L2 Own
section
variable {P : Program} {w : World} {K : PySem.W.Frag} {mg : Str → Option Value} {base : Heap} {a : Ad}
theorem ok_l_dummy : True := trivial
def spRootRight : Sp := sp2 fun x y H Q => ∃ M s m, Same M H ∧ PairAt M x s ∧ y = .int m ∧ Bd (10 ^ 60) s ∧ 1 ≤ m ∧ m.natAbs ≤ 10 ^ 35 ∧ Say M H true Q
theorem ok_l_root_right (T : Txt K mg a) : FnOk P w K mg base CX0 8 a.f_l_root_right a.d_l_root_right ["_law_near", "_law_many"] spRootRight := by
  refine T.F_l_root_right.ok sc_l_root_right (len2 rfl) (fun cdv A outer s H vs Q E hr h => ?_)
  obtain ⟨x0, _, rfl, M, s, m, hM, near, rfl, bs, hm, hb, q⟩ := h
  have hb2 : m.natAbs < 10 ^ 100 := Nat.lt_of_le_of_lt hb (by decide +kernel)
  have o := T.o_Slide
  have us := bs.1
  refine ⟨_, (pss_cons (ps_set (i := 2) sc_l_root_right.nd rfl (.inl rfl) (pe_make T.m_Slide (ok_Slide_init T) (hr.mono (by decide)) (by rfl) T.g_Slide T.b_Slide_init .nil pass0 (pa_cons (pe_ix ix_tup (pv 0) pe_int (fun _ _ => rfl)) (pa_cons (pe_ix ix_tup (pv 0) pe_int (fun _ _ => rfl)) pa_nil))))
      (pss_cons (ps_for PassesOwn.never rfl (pi_list (pe_lst (pa_cons (pe_call (ok_slide_root T) (hr.mono (by decide)) (by rfl) T.g_slide_root T.F_slide_root.kp T.b_slide_root .nil pass0 (pa_cons (pv 2) (pa_cons (pv 1) pa_nil))) (pa_cons (pe_callK0 (ok_slide_root T) (hr.mono (by decide)) (by rfl) T.g_slide_root T.F_slide_root.kp T.k_slide_root pass0 (pk_cons (pv 1) (pk_cons (pv 2) pk_nil))) pa_nil)))) (pg_name (i := 3) sc_l_root_right.nd rfl (.inl rfl))
      (pss_cons (ps_if (pt_cmpR op_eq (pe_cmpR op_isN (pv 3) pe_non (nomark _)) (pe_call (ok_l_has_root T) (hr.mono (by decide)) (by rfl) T.g_l_has_root T.F_l_has_root.kp T.b_l_has_root .nil pass0 (pa_cons (pv 0) (pa_cons (pv 1) pa_nil))) (nomark _))
      (pss_one (ps_ret pe_bl)) pss_nil)
      (pss_one (ps_if (pt_cmpR op_notN (pv 3) pe_non (nomark _))
      (pss_one (ps_if (PW.pt (pw_or (pt_cmpR (op_neD (hr.mono (Nat.zero_le _)).units) (pe_call (ok_l_often T) (hr.mono (by decide)) (by rfl) T.g_l_often T.F_l_often.kp T.b_l_often .nil pass0 (pa_cons (pe_call (ok_l_kept T) (hr.mono (by decide)) (by rfl) T.g_l_kept T.F_l_kept.kp T.b_l_kept .nil pass0 (pa_cons (pv 3) pa_nil)) (pa_cons (pv 1) pa_nil))) (pv 0) (nomark _)) (pw_or1 (pt_cmpR (op_neOwn T.e_Slide (ok_Slide_eq T) (hr.mono (by decide)) T.b_Slide_eq pass0) (pe_call (ok_slide_often T) (hr.mono (by decide)) (by rfl) T.g_slide_often T.F_slide_often.kp T.b_slide_often .nil pass0 (pa_cons (pv 3) (pa_cons (pv 1) pa_nil))) (pv 2) (nomark _)))))
      (pss_one (ps_ret pe_bl)) pss_nil)) pss_nil))))
      (pss_one (ps_ret pe_bl)))), ?_⟩
  refine ⟨_, rfl, rd_p0 (near.mono hM) ⟨_, rfl, rd_p1 (near.mono hM) ?_⟩⟩
  intro x1 d1 hx1 hd1 ne1
  refine ⟨_, _, _, rfl, x1, d1, s, rfl, rfl, rfl, us, upd_same, rfl, ?_⟩
  rw [upd_upd]
  generalize e1 : upd (upd H d1 _) x1 _ = H1
  obtain ⟨M1, g1, mine⟩ := sl_of e1 hM hx1 hd1 ne1 us
  replace near := near.mono g1.ex
  refine ⟨_, rfl, _, rfl, _, _, rfl, M1, s, m, g1.inn, mine, rfl, hm, hb2, fun r2 M2 H2 g2 k2 => ?_⟩
  replace near := near.mono g2.ex
  replace mine := mine.mono g2.ex
  refine ⟨_, rfl, _, rfl, _, _, rfl, M2, s, m, g2.inn, mine, rfl, hm, hb2, fun r3 M3 H3 g3 k3 => ?_⟩
  replace near := near.mono g3.ex
  replace mine := mine.mono g3.ex
  replace k2 := k2.mono g3.ex
  refine ⟨szL rfl, fun p4 pn4 => ?_⟩
  generalize e4 : upd H3 p4 _ = H4
  obtain ⟨M4, g4, hp4⟩ := new_of e4 g3.inn pn4
  have ls : At M4 p4 (.lst [r2, r3]) := hp4
  replace near := near.mono g4.ex
  replace mine := mine.mono g4.ex
  replace k2 := k2.mono g4.ex
  replace k3 := k3.mono g4.ex
  have g04 := ((g1.trans g2).trans g3).trans g4
  refine ⟨p4, rfl, ⟨_, SqL.of (g4.inn _ _ ls)⟩, ?_⟩
  refine for_list (xs := [r2, r3]) (fun i σ H' => ∃ M' y, σ = [some x0, some (.int m), some (.ref x1), y] ∧ Gr M4 H4 M' H') ⟨M4, none, rfl, Gr.refl g4.inn⟩ ?_ ?_ ?_
  · rintro i σ H' hi ⟨M', y, rfl, g⟩
    exact SqL.of (g.inn _ _ (g.ex _ _ ls))
  · rintro i x σ H' hx ⟨M', y, rfl, g⟩
    have kx : OptSl a.C_Slide M' x (rootS s m) := by
      match i, hx with
      | 0, hx => cases hx; exact k2.mono g.ex
      | 1, hx => cases hx; exact k3.mono g.ex
      | i + 2, hx => simp at hx
    have near' := near.mono g.ex
    have mine' := mine.mono g.ex
    refine ⟨_, rfl, rfl, _, rfl, _, rfl, _, _, rfl, M', s, m, g.inn, near', rfl, us, hm, hb2, fun M5 H5 g5 => ⟨rfl, _, rfl, ?_⟩⟩
    cases e : rootS s m with
    | none =>
      rw [e] at kx
      have kx : x = .non := kx
      subst kx
      refine iteF ?_
      refine ⟨_, rfl, rfl, _, rfl, iteF ?_⟩
      exact ⟨M5, _, rfl, g.trans g5⟩
    | some c =>
      rw [e] at kx
      have kx : Sl a.C_Slide M' x c := kx
      obtain ⟨rc, uc, bc⟩ := root_is us hm e
      have bd : Bd (10 ^ 60) c := ⟨uc, Nat.le_trans bc bs.2⟩
      obtain ⟨px, dx, rfl, hpx, _⟩ := id kx
      refine iteF ?_
      replace kx := kx.mono g5.ex
      replace near' := near'.mono g5.ex
      replace mine' := mine'.mono g5.ex
      refine ⟨_, rfl, rfl, _, rfl, iteT ?_⟩
      refine ⟨_, rfl, _, rfl, M5, c, g5.inn, kx, fun r6 M6 H6 g6 k6 => ?_⟩
      refine ⟨_, rfl, _, _, rfl, M6, c, m, g6.inn, k6, rfl, uc, bd.small1 (by decide +kernel), hb2, fun r7 M7 H7 g7 k7 => ?_⟩
      have g67 := g6.ex.trans g7.ex
      refine ⟨_, rfl, _, _, (k7.mono g7.inn).dp, ((near'.mono g67).mono g7.inn).dp, sh_dS _, sh_dS _, false, ?_, iteF ?_⟩
      · rw [eqv_dS, decide_eq_true rc]
        rfl
      · refine ⟨_, rfl, _, rfl, _, _, rfl, M7, c, m, g7.inn, kx.mono g67, rfl, bd.small1 (by decide +kernel), hb2, fun r8 M8 H8 g8 k8 => ?_⟩
        refine ⟨_, rfl, ne_slide o (k8.mono g8.inn) (((mine'.mono g67).mono g8.ex).mono g8.inn) rc ((rc ▸ bs : Bd (10 ^ 60) (oftS c m)).small (by decide +kernel)) ⟨_, rfl, iteF ?_⟩⟩
        exact ⟨M8, _, rfl, (((g.trans g5).trans g6).trans g7).trans g8⟩
  · rintro σ H' ⟨M', y, rfl, g⟩
    exact q M' H' (g04.trans g)
theorem dpb {M : Hp} (b : Bool) : Dp K M (.bl b) (.bool b) := .bl b
def spPairRight : Sp := sp2 fun x y H Q => ∃ M s t, Same M H ∧ PairAt M x s ∧ PairAt M y t ∧ Bd (10 ^ 60) s ∧ Bd (10 ^ 60) t ∧ Say M H true Q
theorem ok_l_pair_right (T : Txt K mg a) : FnG P w K mg base 8 a.f_l_pair_right a.d_l_pair_right ["_law_near", "_law_late"] spPairRight := by
  refine okG T.F_l_pair_right sc_l_pair_right (len2 rfl) (fun cdv A outer s H vs Q E hg hr h => ?_)
  obtain ⟨x0, y0, rfl, M, s, t, hM, near, late, bs, bt, q⟩ := h
  have o := T.o_Slide
  have us := bs.1
  have ut := bt.1
  refine ⟨_, (pss_cons (ps_par3 (by rfl) sc_l_pair_right.nd (i := 2) (j := 3) (l := 4) rfl rfl rfl (by decide) (by decide) (by decide) rfl rfl rfl (pa_cons (pe_make T.m_Slide (ok_Slide_init T) (hr.mono (by decide)) (by rfl) T.g_Slide T.b_Slide_init .nil pass0 (pa_cons (pe_ix ix_tup (pv 0) pe_int (fun _ _ => rfl)) (pa_cons (pe_ix ix_tup (pv 0) pe_int (fun _ _ => rfl)) pa_nil))) (pa_cons (pe_make T.m_Slide (ok_Slide_init T) (hr.mono (by decide)) (by rfl) T.g_Slide T.b_Slide_init .nil pass0 (pa_cons (pe_ix ix_tup (pv 1) pe_int (fun _ _ => rfl)) (pa_cons (pe_ix ix_tup (pv 1) pe_int (fun _ _ => rfl)) pa_nil))) (pa_cons (pe_call (ok_l_is_like T) (hr.mono (by decide)) (by rfl) T.g_l_is_like T.F_l_is_like.kp T.b_l_is_like .nil pass0 (pa_cons (pv 0) (pa_cons (pv 1) pa_nil))) pa_nil))) (by rfl))
      (pss_cons (ps_if (pt_cmpR op_ne (pe_callB (call_repr hg (hr.mono (Nat.zero_le _)).units) (by rfl) T.z_repr (by decide +kernel) (pa_cons (pe_lst (pa_cons (pe_call (ok_is_slide_alike T) (hr.mono (by decide)) (by rfl) T.g_is_slide_alike T.F_is_slide_alike.kp T.b_is_slide_alike .nil pass0 (pa_cons (pv 2) (pa_cons (pv 3) pa_nil))) (pa_cons (pe_callK0 (ok_is_slide_alike T) (hr.mono (by decide)) (by rfl) T.g_is_slide_alike T.F_is_slide_alike.kp T.k_is_slide_alike pass0 (pk_cons (pv 3) (pk_cons (pv 2) pk_nil))) pa_nil))) pa_nil)) (pe_callB (call_repr hg (hr.mono (Nat.zero_le _)).units) (by rfl) T.z_repr (by decide +kernel) (pa_cons (pe_lst (pa_cons (pv 4) (pa_cons (pv 4) pa_nil))) pa_nil)) (nomark _))
      (pss_one (ps_ret pe_bl)) pss_nil)
      (pss_cons (ps_for PassesOwn.never rfl (pi_list (pe_lst (pa_cons (pe_call (ok_slide_alike T) (hr.mono (by decide)) (by rfl) T.g_slide_alike T.F_slide_alike.kp T.b_slide_alike .nil pass0 (pa_cons (pv 2) (pa_cons (pv 3) pa_nil))) (pa_cons (pe_callK0 (ok_slide_alike T) (hr.mono (by decide)) (by rfl) T.g_slide_alike T.F_slide_alike.kp T.k_slide_alike pass0 (pk_cons (pv 3) (pk_cons (pv 2) pk_nil))) pa_nil)))) (pg_name (i := 5) sc_l_pair_right.nd rfl (.inl rfl))
      (pss_one (ps_if (PW.pt (pw_or (pt_cmpR op_eq (pe_cmpR op_isN (pv 5) pe_non (nomark _)) (pv 4) (nomark _)) (pw_or1 (PW.pt (pw_and (pt_val (pv 4)) (pw_and1 (pt_cmpR (op_neD (hr.mono (Nat.zero_le _)).units) (pe_call (ok_l_put T) (hr.mono (by decide)) (by rfl) T.g_l_put T.F_l_put.kp T.b_l_put .nil pass0 (pa_cons (pe_call (ok_l_kept T) (hr.mono (by decide)) (by rfl) T.g_l_kept T.F_l_kept.kp T.b_l_kept .nil pass0 (pa_cons (pv 5) pa_nil)) (pa_cons (pv 0) pa_nil))) (pv 1) (nomark _))))))))
      (pss_one (ps_ret pe_bl)) pss_nil)))
      (pss_cons (ps_set (i := 4) sc_l_pair_right.nd rfl (.inl rfl) (pe_cmpR (op_eqD (hr.mono (Nat.zero_le _)).units) (pe_call (ok_l_then T) (hr.mono (by decide)) (by rfl) T.g_l_then T.F_l_then.kp T.b_l_then .nil pass0 (pa_cons (pv 0) (pa_cons (pv 1) pa_nil))) (pe_call (ok_l_then T) (hr.mono (by decide)) (by rfl) T.g_l_then T.F_l_then.kp T.b_l_then .nil pass0 (pa_cons (pv 1) (pa_cons (pv 0) pa_nil))) (nomark _)))
      (pss_one (ps_ret (pe_cmpR op_eq (pe_callB (call_repr hg (hr.mono (Nat.zero_le _)).units) (by rfl) T.z_repr (by decide +kernel) (pa_cons (pe_lst (pa_cons (pe_call (ok_do_slides_commute T) (hr.mono (by decide)) (by rfl) T.g_do_slides_commute T.F_do_slides_commute.kp T.b_do_slides_commute .nil pass0 (pa_cons (pv 2) (pa_cons (pv 3) pa_nil))) (pa_cons (pe_callK0 (ok_do_slides_commute T) (hr.mono (by decide)) (by rfl) T.g_do_slides_commute T.F_do_slides_commute.kp T.k_do_slides_commute pass0 (pk_cons (pv 3) (pk_cons (pv 2) pk_nil))) pa_nil))) pa_nil)) (pe_callB (call_repr hg (hr.mono (Nat.zero_le _)).units) (by rfl) T.z_repr (by decide +kernel) (pa_cons (pe_lst (pa_cons (pv 4) (pa_cons (pv 4) pa_nil))) pa_nil)) (nomark _)))))))), ?_⟩
  -- mine, mate, due
  refine ⟨_, rfl, rd_p0 (near.mono hM) ⟨_, rfl, rd_p1 (near.mono hM) ?_⟩⟩
  intro x1 d1 hx1 hd1 ne1
  refine ⟨_, _, _, rfl, x1, d1, s, rfl, rfl, rfl, us, upd_same, rfl, ?_⟩
  rw [upd_upd]
  generalize e1 : upd (upd H d1 _) x1 _ = H1
  obtain ⟨M1, g1, mine⟩ := sl_of e1 hM hx1 hd1 ne1 us
  replace near := near.mono g1.ex
  replace late := late.mono g1.ex
  refine ⟨_, rfl, rd_p0 (late.mono g1.inn) ⟨_, rfl, rd_p1 (late.mono g1.inn) ?_⟩⟩
  intro x2 d2 hx2 hd2 ne2
  refine ⟨_, _, _, rfl, x2, d2, t, rfl, rfl, rfl, ut, upd_same, rfl, ?_⟩
  rw [upd_upd]
  generalize e2 : upd (upd H1 d2 _) x2 _ = H2
  obtain ⟨M2, g2, mate⟩ := sl_of e2 g1.inn hx2 hd2 ne2 ut
  replace near := near.mono g2.ex
  replace late := late.mono g2.ex
  replace mine := mine.mono g2.ex
  refine ⟨_, rfl, _, rfl, _, _, rfl, M2, s, t, g2.inn, near, late, us, ut, fun M3 H3 g3 => ?_⟩
  replace near := near.mono g3.ex
  replace late := late.mono g3.ex
  replace mine := mine.mono g3.ex
  replace mate := mate.mono g3.ex
  refine ⟨_, _, _, rfl, ?_⟩
  -- repr of likeness
  refine ⟨_, rfl, _, rfl, _, _, rfl, M3, s, t, g3.inn, mine, mate, fun M4 H4 g4 => ?_⟩
  replace near := near.mono g4.ex
  replace late := late.mono g4.ex
  replace mine := mine.mono g4.ex
  replace mate := mate.mono g4.ex
  refine ⟨_, rfl, _, rfl, _, _, rfl, M4, s, t, g4.inn, mine, mate, fun M5 H5 g5 => ?_⟩
  replace near := near.mono g5.ex
  replace late := late.mono g5.ex
  replace mine := mine.mono g5.ex
  replace mate := mate.mono g5.ex
  refine ⟨szL rfl, fun p6 pn6 => ?_⟩
  generalize e6 : upd H5 p6 _ = H6
  obtain ⟨M6, g6, hp6⟩ := new_of e6 g5.inn pn6
  replace near := near.mono g6.ex
  replace late := late.mono g6.ex
  replace mine := mine.mono g6.ex
  replace mate := mate.mono g6.ex
  refine ⟨_, _, rfl, dp2 (g6.inn _ _ hp6) (dpb _) (dpb _), ok2 trivial trivial, rfl, rfl, ⟨_, rfl⟩, ?_⟩
  refine ⟨_, rfl, _, rfl, ?_⟩
  refine ⟨szL rfl, fun p7 pn7 => ?_⟩
  generalize e7 : upd H6 p7 _ = H7
  obtain ⟨M7, g7, hp7⟩ := new_of e7 g6.inn pn7
  replace near := near.mono g7.ex
  replace late := late.mono g7.ex
  replace mine := mine.mono g7.ex
  replace mate := mate.mono g7.ex
  refine ⟨_, _, rfl, dp2 (g7.inn _ _ hp7) (dpb _) (dpb _), ok2 trivial trivial, rfl, rfl, ⟨_, rfl⟩, rfl, _, rfl, iteNS rfl ?_⟩
  -- what shows it
  refine ⟨_, rfl, _, rfl, _, _, rfl, M7, s, t, g7.inn, mine, mate, fun r8 M8 H8 g8 k8 => ?_⟩
  replace near := near.mono g8.ex
  replace late := late.mono g8.ex
  replace mine := mine.mono g8.ex
  replace mate := mate.mono g8.ex
  refine ⟨_, rfl, _, rfl, _, _, rfl, M8, s, t, g8.inn, mine, mate, fun r9 M9 H9 g9 k9 => ?_⟩
  replace near := near.mono g9.ex
  replace late := late.mono g9.ex
  replace mine := mine.mono g9.ex
  replace mate := mate.mono g9.ex
  replace k8 := k8.mono g9.ex
  refine ⟨szL rfl, fun p10 pn10 => ?_⟩
  generalize e10 : upd H9 p10 _ = H10
  obtain ⟨M10, g10, hp10⟩ := new_of e10 g9.inn pn10
  have ls : At M10 p10 (.lst [r8, r9]) := hp10
  replace near := near.mono g10.ex
  replace late := late.mono g10.ex
  replace mine := mine.mono g10.ex
  replace mate := mate.mono g10.ex
  replace k8 := k8.mono g10.ex
  replace k9 := k9.mono g10.ex
  have g010 := ((((((((g1.trans g2).trans g3).trans g4).trans g5).trans g6).trans g7).trans g8).trans g9).trans g10
  refine ⟨p10, rfl, ⟨_, SqL.of (g10.inn _ _ ls)⟩, ?_⟩
  refine for_list (xs := [r8, r9]) (fun i σ H' => ∃ M' y, σ = [some x0, some y0, some (.ref x1), some (.ref x2), some (.bl (linkS s t).isSome), y] ∧ Gr M10 H10 M' H') ⟨M10, none, rfl, Gr.refl g10.inn⟩ ?_ ?_ ?_
  · rintro i σ H' hi ⟨M', y, rfl, g⟩
    exact SqL.of (g.inn _ _ (g.ex _ _ ls))
  · rintro i x σ H' hx ⟨M', y, rfl, g⟩
    have kx : OptSl a.C_Slide M' x (linkS s t) := by
      match i, hx with
      | 0, hx => cases hx; exact k8.mono g.ex
      | 1, hx => cases hx; exact k9.mono g.ex
      | i + 2, hx => simp at hx
    have near' := near.mono g.ex
    have late' := late.mono g.ex
    cases e : linkS s t with
    | none =>
      rw [e] at kx
      have kx : x = .non := kx
      subst kx
      exact ⟨_, rfl, rfl, _, rfl, rfl, _, rfl, iteF ⟨_, rfl, _, rfl, iteF (iteF ⟨M', _, rfl, g⟩)⟩⟩
    | some c =>
      rw [e] at kx
      have kx : Sl a.C_Slide M' x c := kx
      obtain ⟨pc, uc, n1, n2⟩ := put_of_link us e
      obtain ⟨px, dx, rfl, hpx, _⟩ := id kx
      refine ⟨_, rfl, rfl, _, rfl, rfl, _, rfl, iteF ⟨_, rfl, _, rfl, iteT ?_⟩⟩
      refine ⟨_, rfl, _, rfl, M', c, g.inn, kx, fun r6 M6 H6 g6' k6 => ?_⟩
      refine ⟨_, rfl, _, _, rfl, M6, c, s, g6'.inn, k6, near'.mono g6'.ex, uc, us, fun r7 M7' H7' g7' k7 => ?_⟩
      have g67 := g6'.ex.trans g7'.ex
      refine ⟨_, rfl, _, _, (k7.mono g7'.inn).dp, ((late'.mono g67).mono g7'.inn).dp, sh_dS _, sh_dS _, false, ?_, iteF ?_⟩
      · rw [eqv_dS, decide_eq_true pc]
        rfl
      · exact ⟨M7', _, rfl, (g.trans g6').trans g7'⟩
  · rintro σ H' ⟨M', y, rfl, g⟩
    replace near := near.mono g.ex
    replace late := late.mono g.ex
    replace mine := mine.mono g.ex
    replace mate := mate.mono g.ex
    -- commuting
    refine ⟨_, rfl, _, rfl, _, _, rfl, M', s, t, g.inn, near, late, us, fun r11 M11 H11 g11 k11 => ?_⟩
    replace near := near.mono g11.ex
    replace late := late.mono g11.ex
    replace mine := mine.mono g11.ex
    replace mate := mate.mono g11.ex
    refine ⟨_, rfl, _, rfl, _, _, rfl, M11, t, s, g11.inn, late, near, ut, fun r12 M12 H12 g12 k12 => ?_⟩
    replace near := near.mono g12.ex
    replace late := late.mono g12.ex
    replace mine := mine.mono g12.ex
    replace mate := mate.mono g12.ex
    replace k11 := k11.mono g12.ex
    refine ⟨_, _, (k11.mono g12.inn).dp, (k12.mono g12.inn).dp, sh_dS _, sh_dS _, ?_⟩
    rw [eqv_dS]
    have b1 := (bd_then bs bt).small (by decide +kernel)
    have b2 := (bd_then bt bs).small (by decide +kernel)
    refine ⟨_, rfl, _, rfl, _, _, rfl, M12, s, t, g12.inn, mine, mate, b1, b2, fun M13 H13 g13 => ?_⟩
    replace mine := mine.mono g13.ex
    replace mate := mate.mono g13.ex
    refine ⟨_, rfl, _, rfl, _, _, rfl, M13, s, t, g13.inn, mine, mate, b1, b2, fun M14 H14 g14 => ?_⟩
    refine ⟨szL rfl, fun p15 pn15 => ?_⟩
    generalize e15 : upd H14 p15 _ = H15
    obtain ⟨M15, g15, hp15⟩ := new_of e15 g14.inn pn15
    refine ⟨_, _, rfl, dp2 (g15.inn _ _ hp15) (dpb _) (dpb _), ok2 trivial trivial, rfl, rfl, ⟨_, rfl⟩, ?_⟩
    refine ⟨_, rfl, _, rfl, ?_⟩
    refine ⟨szL rfl, fun p16 pn16 => ?_⟩
    generalize e16 : upd H15 p16 _ = H16
    obtain ⟨M16, g16, hp16⟩ := new_of e16 g15.inn pn16
    refine ⟨_, _, rfl, dp2 (g16.inn _ _ hp16) (dpb _) (dpb _), ok2 trivial trivial, rfl, rfl, ⟨_, rfl⟩, rfl, ?_⟩
    exact bl_refl (q M16 H16 (((((((g010.trans g).trans g11).trans g12).trans g13).trans g14).trans g15).trans g16))
end

end K33

namespace K33
open PySem PySem.Spec PyProof.Rows L2 Own
section
variable {P : Program} {w : World} {K : PySem.W.Frag} {mg : Str → Option Value} {base : Heap} {a : Ad}
theorem Bd.up {n m : Nat} {s : S2} (h : Bd n s) (k : Nat.ble n m = true) : Bd m s := ⟨h.1, Nat.le_trans h.2 (Nat.le_of_ble_eq_true k)⟩
/-- a pair of pairs; a pair and a number of times -/
def Two (M : Hp) (x : V) : Prop := ∃ p u v s t, x = .ref p ∧ M p = some (.tup [u, v]) ∧ PairAt M u s ∧ PairAt M v t ∧ Bd (10 ^ 60) s ∧ Bd (10 ^ 60) t
theorem Two.mono {M M1 : Hp} {x : V} (h : Two M x) (e : Same M M1) : Two M1 x := by
  obtain ⟨p, u, v, s, t, r, h, k1, k2, b⟩ := h
  exact ⟨p, u, v, s, t, r, e _ _ h, k1.mono e, k2.mono e, b⟩
def Pow (M : Hp) (x : V) : Prop := ∃ p u s m, x = .ref p ∧ M p = some (.tup [u, .int m]) ∧ PairAt M u s ∧ Bd (10 ^ 60) s ∧ 1 ≤ m ∧ m.natAbs ≤ 10 ^ 35
theorem Pow.mono {M M1 : Hp} {x : V} (h : Pow M x) (e : Same M M1) : Pow M1 x := by
  obtain ⟨p, u, s, m, r, h, k1, b⟩ := h
  exact ⟨p, u, s, m, r, e _ _ h, k1.mono e, b⟩
theorem ok_l_right (T : Txt K mg a) : FnG P w K mg base 10 a.f_l_right a.d_l_right ["_law_vial_here"] spRight := by
  refine okG T.F_l_right sc_l_right (len1 rfl) (fun cdv A outer s H vs Q E hg hr h => ?_)
  obtain ⟨_, rfl, v, M, rfl, w, q⟩ := h
  refine ⟨_, (pss_cons (ps_for PassesOwn.never rfl (pi_range1 (by rfl) T.z_range (pa_cons pe_int pa_nil)) (pg_name (i := 1) sc_l_right.nd rfl (.inl rfl))
      (pss_cons (ps_par (by rfl) sc_l_right.nd (i := 2) (j := 3) rfl rfl (by decide) rfl rfl (pa_cons (pe_call (ok_l_pair T) (hr.mono (by decide)) (by rfl) T.g_l_pair T.F_l_pair.kp T.b_l_pair .nil pass0 (pa_cons (pv 0) pa_nil)) (pa_cons (pe_call (ok_l_pair T) (hr.mono (by decide)) (by rfl) T.g_l_pair T.F_l_pair.kp T.b_l_pair .nil pass0 (pa_cons (pv 0) pa_nil)) pa_nil)) (by rfl))
      (pss_cons (ps_set (i := 4) sc_l_right.nd rfl (.inl rfl) (pe_call (ok_l_pair T) (hr.mono (by decide)) (by rfl) T.g_l_pair T.F_l_pair.kp T.b_l_pair .nil pass0 (pa_cons (pv 0) pa_nil)))
      (pss_cons (ps_set (i := 5) sc_l_right.nd rfl (.inl rfl) (pe_call (ok_l_put T) (hr.mono (by decide)) (by rfl) T.g_l_put T.F_l_put.kp T.b_l_put .nil pass0 (pa_cons (pv 4) (pa_cons (pv 2) pa_nil))))
      (pss_cons (ps_for PassesOwn.never rfl (pi_list (pe_lst (pa_cons (pe_tup (pa_cons (pv 2) (pa_cons (pv 3) pa_nil))) (pa_cons (pe_tup (pa_cons (pv 2) (pa_cons (pv 5) pa_nil))) (pa_cons (pe_tup (pa_cons (pv 3) (pa_cons (pv 2) pa_nil))) (pa_cons (pe_tup (pa_cons (pv 2) (pa_cons (pe_tup (pa_cons (pe_ix ix_tup (pv 2) pe_int (fun _ _ => rfl)) (pa_cons (pe_op op_add (pe_ix ix_tup (pv 2) pe_int (fun _ _ => rfl)) pe_int) pa_nil))) pa_nil))) (pa_cons (pe_tup (pa_cons (pv 2) (pa_cons (pe_tup (pa_cons pe_int (pa_cons pe_int pa_nil))) pa_nil))) pa_nil))))))) (pg_name (i := 6) sc_l_right.nd rfl (.inl rfl))
      (pss_one (ps_if (pt_not (pt_val (pe_callG (ok_l_pair_right T) hg (hr.mono (by decide)) (by rfl) T.g_l_pair_right T.F_l_pair_right.kp T.b_l_pair_right (pa_cons (pe_ix ix_tup (pv 6) pe_int (fun _ _ => rfl)) (pa_cons (pe_ix ix_tup (pv 6) pe_int (fun _ _ => rfl)) pa_nil)))))
      (pss_one (ps_ret pe_bl)) pss_nil)))
      (pss_cons (ps_set (i := 7) sc_l_right.nd rfl (.inl rfl) (pe_call (ok_l_opt T) (hr.mono (by decide)) (by rfl) T.g_l_opt T.F_l_opt.kp T.b_l_opt .nil pass0 (pa_cons (pv 0) (pa_cons (pe_lst (pa_cons pe_int (pa_cons pe_int (pa_cons pe_int (pa_cons pe_int (pa_cons pe_int (pa_cons pe_int (pa_cons pe_int (pa_cons (pe_op op_add (pe_op op_pow pe_int pe_int) pe_int) (pa_cons (pe_op op_pow pe_int pe_int) pa_nil)))))))))) pa_nil))))
      (pss_cons (ps_set (i := 8) sc_l_right.nd rfl (.inl rfl) (pe_op op_add pe_int (pe_call (ok_l_nip T) (hr.mono (by decide)) (by rfl) T.g_l_nip T.F_l_nip.kp T.b_l_nip .nil pass0 (pa_cons (pv 0) (pa_cons pe_int pa_nil)))))
      (pss_one (ps_for PassesOwn.never rfl (pi_list (pe_lst (pa_cons (pe_tup (pa_cons (pv 2) (pa_cons (pv 7) pa_nil))) (pa_cons (pe_tup (pa_cons (pe_call (ok_l_often T) (hr.mono (by decide)) (by rfl) T.g_l_often T.F_l_often.kp T.b_l_often .nil pass0 (pa_cons (pv 3) (pa_cons (pv 8) pa_nil))) (pa_cons (pv 8) pa_nil))) (pa_cons (pe_tup (pa_cons (pe_tup (pa_cons pe_int (pa_cons pe_int pa_nil))) (pa_cons (pv 7) pa_nil))) (pa_cons (pe_tup (pa_cons (pv 4) (pa_cons pe_int pa_nil))) (pa_cons (pe_tup (pa_cons (pv 4) (pa_cons pe_int pa_nil))) pa_nil))))))) (pg_tup (by rfl) (pgs_cons (pg_name (i := 9) sc_l_right.nd rfl (.inl rfl)) (pgs_cons (pg_name (i := 10) sc_l_right.nd rfl (.inl rfl)) pgs_nil)))
      (pss_one (ps_if (pt_not (pt_val (pe_call (ok_l_root_right T) (hr.mono (by decide)) (by rfl) T.g_l_root_right T.F_l_root_right.kp T.b_l_root_right .nil pass0 (pa_cons (pv 9) (pa_cons (pv 10) pa_nil)))))
      (pss_one (ps_ret pe_bl)) pss_nil)))))))))))
      (pss_one (ps_ret pe_bl))), ?_⟩
  refine ⟨3, rfl, by decide, by decide, ?_⟩
  refine for_range (lo := 0) (n := 3) (fun i σ H' => ∃ M' y1 y2 y3 y4 y5 y6 y7 y8 y9 y10, σ = [some (.ref v), y1, y2, y3, y4, y5, y6, y7, y8, y9, y10] ∧ Same M M' ∧ Vl v (14 * i) M' H') ⟨M, none, none, none, none, none, none, none, none, none, none, rfl, Same.refl _, w⟩ ?_ ?_
  · rintro i σ H0 hi ⟨M0, y1, y2, y3, y4, y5, y6, y7, y8, y9, y10, rfl, top, w⟩
    -- three pairs
    refine ⟨_, rfl, _, rfl, v, _, M0, rfl, w, by omega, fun r1 M1 H1 s1 u1 d1 e1 w1 near => ?_⟩
    replace top := top.trans e1
    refine ⟨_, rfl, _, rfl, v, _, M1, rfl, w1, by omega, fun r2 M2 H2 s2 u2 d2 e2 w2 late => ?_⟩
    replace top := top.trans e2
    replace near := near.mono e2
    refine ⟨_, _, rfl, ?_⟩
    refine ⟨_, rfl, _, rfl, v, _, M2, rfl, w2, by omega, fun r3 M3 H3 s3 u3 d3 e3 w3 how => ?_⟩
    replace top := top.trans e3
    replace near := near.mono e3
    replace late := late.mono e3
    replace w := w3
    have b1 : Bd (10 ^ 30) s1 := ⟨u1, d1⟩
    have b2 : Bd (10 ^ 30) s2 := ⟨u2, d2⟩
    have b3 : Bd (10 ^ 30) s3 := ⟨u3, d3⟩
    -- like
    refine ⟨_, rfl, _, rfl, _, _, rfl, M3, s3, s1, w.inn, how, near, u3, u1, fun r4 M4 H4 g4 like => ?_⟩
    replace top := top.trans g4.ex
    replace w := w.grow g4
    replace near := near.mono g4.ex
    replace late := late.mono g4.ex
    replace how := how.mono g4.ex
    -- five pairs
    refine ⟨_, rfl, _, rfl, ?_⟩
    refine ⟨szL rfl, fun p5 pn5 => ?_⟩
    generalize e5 : upd H4 p5 _ = H5
    obtain ⟨M5, g5, hp5⟩ := new_of e5 w.inn pn5
    replace top := top.trans g5.ex
    replace w := w.grow g5
    replace near := near.mono g5.ex
    replace late := late.mono g5.ex
    replace how := how.mono g5.ex
    replace like := like.mono g5.ex
    have t5 : Two M5 (.ref p5) := ⟨p5, r1, r2, s1, s2, rfl, hp5, near, late, b1.up (by decide +kernel), b2.up (by decide +kernel)⟩
    refine ⟨_, rfl, _, rfl, ?_⟩
    refine ⟨szL rfl, fun p6 pn6 => ?_⟩
    generalize e6 : upd H5 p6 _ = H6
    obtain ⟨M6, g6, hp6⟩ := new_of e6 w.inn pn6
    replace top := top.trans g6.ex
    replace w := w.grow g6
    replace near := near.mono g6.ex
    replace late := late.mono g6.ex
    replace how := how.mono g6.ex
    replace like := like.mono g6.ex
    replace t5 := t5.mono g6.ex
    have t6 : Two M6 (.ref p6) := ⟨p6, r1, r4, s1, _, rfl, hp6, near, like, b1.up (by decide +kernel), (bd_put b3 b1).up (by decide +kernel)⟩
    refine ⟨_, rfl, _, rfl, ?_⟩
    refine ⟨szL rfl, fun p7 pn7 => ?_⟩
    generalize e7 : upd H6 p7 _ = H7
    obtain ⟨M7, g7, hp7⟩ := new_of e7 w.inn pn7
    replace top := top.trans g7.ex
    replace w := w.grow g7
    replace near := near.mono g7.ex
    replace late := late.mono g7.ex
    replace how := how.mono g7.ex
    replace t5 := t5.mono g7.ex
    replace t6 := t6.mono g7.ex
    have t7 : Two M7 (.ref p7) := ⟨p7, r2, r1, s2, s1, rfl, hp7, late, near, b2.up (by decide +kernel), b1.up (by decide +kernel)⟩
    refine ⟨_, rfl, _, rfl, rd_p0 (near.mono w.inn) ⟨_, rfl, rd_p1 (near.mono w.inn) ⟨_, _, rfl, rfl, ?_⟩⟩⟩
    refine ⟨szL rfl, fun p8 pn8 => ?_⟩
    generalize e8 : upd H7 p8 _ = H8
    obtain ⟨M8, g8, hp8⟩ := new_of e8 w.inn pn8
    have k8 : PairAt M8 (.ref p8) (s1.1, s1.2 + 2) := ⟨p8, rfl, hp8⟩
    replace top := top.trans g8.ex
    replace w := w.grow g8
    replace near := near.mono g8.ex
    replace late := late.mono g8.ex
    replace how := how.mono g8.ex
    replace t5 := t5.mono g8.ex
    replace t6 := t6.mono g8.ex
    replace t7 := t7.mono g8.ex
    refine ⟨szL rfl, fun p9 pn9 => ?_⟩
    generalize e9 : upd H8 p9 _ = H9
    obtain ⟨M9, g9, hp9⟩ := new_of e9 w.inn pn9
    replace top := top.trans g9.ex
    replace w := w.grow g9
    replace near := near.mono g9.ex
    replace late := late.mono g9.ex
    replace how := how.mono g9.ex
    replace t5 := t5.mono g9.ex
    replace t6 := t6.mono g9.ex
    replace t7 := t7.mono g9.ex
    replace k8 := k8.mono g9.ex
    have b8 : Bd (10 ^ 60) (s1.1, s1.2 + 2) := ⟨u1, Nat.le_trans (show (s1.2 + 2).natAbs ≤ 10 ^ 30 + 2 by omega) (by decide +kernel)⟩
    have t9 : Two M9 (.ref p9) := ⟨p9, r1, _, s1, _, rfl, hp9, near, k8, b1.up (by decide +kernel), b8⟩
    refine ⟨_, rfl, ?_⟩
    refine ⟨szL rfl, fun p10 pn10 => ?_⟩
    generalize e10 : upd H9 p10 _ = H10
    obtain ⟨M10, g10, hp10⟩ := new_of e10 w.inn pn10
    have k10 : PairAt M10 (.ref p10) (1, 0) := ⟨p10, rfl, hp10⟩
    replace top := top.trans g10.ex
    replace w := w.grow g10
    replace near := near.mono g10.ex
    replace late := late.mono g10.ex
    replace how := how.mono g10.ex
    replace t5 := t5.mono g10.ex
    replace t6 := t6.mono g10.ex
    replace t7 := t7.mono g10.ex
    replace t9 := t9.mono g10.ex
    refine ⟨szL rfl, fun p11 pn11 => ?_⟩
    generalize e11 : upd H10 p11 _ = H11
    obtain ⟨M11, g11, hp11⟩ := new_of e11 w.inn pn11
    replace top := top.trans g11.ex
    replace w := w.grow g11
    replace near := near.mono g11.ex
    replace late := late.mono g11.ex
    replace how := how.mono g11.ex
    replace t5 := t5.mono g11.ex
    replace t6 := t6.mono g11.ex
    replace t7 := t7.mono g11.ex
    replace t9 := t9.mono g11.ex
    replace k10 := k10.mono g11.ex
    have t11 : Two M11 (.ref p11) := ⟨p11, r1, _, s1, _, rfl, hp11, near, k10, b1.up (by decide +kernel), .inl rfl, Nat.zero_le _⟩
    refine ⟨szL rfl, fun p12 pn12 => ?_⟩
    generalize e12 : upd H11 p12 _ = H12
    obtain ⟨M12, g12, hp12⟩ := new_of e12 w.inn pn12
    have ls : At M12 p12 (.lst [.ref p5, .ref p6, .ref p7, .ref p9, .ref p11]) := hp12
    replace top := top.trans g12.ex
    replace w := w.grow g12
    replace near := near.mono g12.ex
    replace late := late.mono g12.ex
    replace how := how.mono g12.ex
    replace t5 := t5.mono g12.ex
    replace t6 := t6.mono g12.ex
    replace t7 := t7.mono g12.ex
    replace t9 := t9.mono g12.ex
    replace t11 := t11.mono g12.ex
    refine ⟨p12, rfl, ⟨_, SqL.of (w.inn _ _ ls)⟩, ?_⟩
    refine for_list (xs := [.ref p5, .ref p6, .ref p7, .ref p9, .ref p11]) (fun j σ H' => ∃ M' y, σ = [some (.ref v), some (.int (0 + (i : Int))), some r1, some r2, some r3, some r4, y, y7, y8, y9, y10] ∧ Gr M12 H12 M' H') ⟨M12, y6, rfl, Gr.refl w.inn⟩ ?_ ?_ ?_
    · rintro j σ H' hj ⟨M', y, rfl, g⟩
      exact SqL.of (g.inn _ _ (g.ex _ _ ls))
    · rintro j x σ H' hx ⟨M', y, rfl, g⟩
      have tx : Two M' x := by
        match j, hx with
        | 0, hx => cases hx; exact t5.mono g.ex
        | 1, hx => cases hx; exact t6.mono g.ex
        | 2, hx => cases hx; exact t7.mono g.ex
        | 3, hx => cases hx; exact t9.mono g.ex
        | 4, hx => cases hx; exact t11.mono g.ex
        | j + 5, hx => simp at hx
      obtain ⟨px, xu, xv, sx, tx, rfl, hpx, ku, kv, bu, bv⟩ := tx
      refine ⟨_, rfl, px, _, 0, xu, rfl, rfl, SqT.of (g.inn _ _ hpx), rfl, _, rfl, px, _, 1, xv, rfl, rfl, SqT.of (g.inn _ _ hpx), rfl, ?_⟩
      refine ⟨_, _, rfl, M', sx, tx, g.inn, ku, kv, bu, bv, fun M20 H20 g20 => ⟨_, rfl, iteF ?_⟩⟩
      exact ⟨M20, _, rfl, g.trans g20⟩
    · rintro σ H' ⟨M', y, rfl, g⟩
      replace top := top.trans g.ex
      replace w := w.grow g
      replace near := near.mono g.ex
      replace late := late.mono g.ex
      replace how := how.mono g.ex
      -- many, small
      refine ⟨_, rfl, _, _, rfl, rfl, ⟨by decide, by decide, by decide⟩, _, _, rfl, rfl, _, _, rfl, rfl, ⟨by decide, by decide, by decide⟩, ?_⟩
      refine ⟨szL rfl, fun p13 pn13 => ?_⟩
      generalize e13 : upd H' p13 _ = H13
      obtain ⟨M13, g13, hp13⟩ := new_of e13 w.inn pn13
      replace top := top.trans g13.ex
      replace w := w.grow g13
      replace near := near.mono g13.ex
      replace late := late.mono g13.ex
      replace how := how.mono g13.ex
      refine ⟨_, _, rfl, v, _, M13, p13, _, rfl, rfl, w, by omega, hp13, by show 0 < 9; decide, by show 9 < 1000; decide, fun r14 H14 m14 w14 => ?_⟩
      replace w := w14
      have big : ∃ m : Int, r14 = .int m ∧ 1 ≤ m ∧ m.natAbs ≤ 10 ^ 35 := by
        simp only [List.mem_cons, List.not_mem_nil, or_false] at m14
        rcases m14 with rfl | rfl | rfl | rfl | rfl | rfl | rfl | rfl | rfl
        all_goals exact ⟨_, rfl, by decide +kernel, by decide +kernel⟩
      obtain ⟨m, rfl, m1, m2⟩ := big
      refine ⟨_, rfl, _, _, rfl, v, _, M13, 5, rfl, rfl, w, by omega, by decide, by decide, fun r15 H15 a15 c15 w15 => ⟨_, _, rfl, rfl, ?_⟩⟩
      replace w := w15
      have sm : (1 + r15).natAbs ≤ 5 := by omega
      have sm2 : (1 + r15).natAbs ≤ 10 ^ 35 := Nat.le_trans sm (by decide +kernel)
      -- five roots
      refine ⟨_, rfl, _, rfl, ?_⟩
      refine ⟨szL rfl, fun p16 pn16 => ?_⟩
      generalize e16 : upd H15 p16 _ = H16
      obtain ⟨M16, g16, hp16⟩ := new_of e16 w.inn pn16
      replace top := top.trans g16.ex
      replace w := w.grow g16
      replace near := near.mono g16.ex
      replace late := late.mono g16.ex
      replace how := how.mono g16.ex
      have t16 : Pow M16 (.ref p16) := ⟨p16, r1, s1, m, rfl, hp16, near, b1.up (by decide +kernel), m1, m2⟩
      refine ⟨_, rfl, _, rfl, _, _, rfl, M16, s2, _, w.inn, late, rfl, u2, b2.small1 (by decide +kernel), Nat.lt_of_le_of_lt sm (by decide +kernel), fun r17 M17 H17 g17 k17 => ?_⟩
      replace top := top.trans g17.ex
      replace w := w.grow g17
      replace near := near.mono g17.ex
      replace late := late.mono g17.ex
      replace how := how.mono g17.ex
      replace t16 := t16.mono g17.ex
      refine ⟨_, rfl, ?_⟩
      refine ⟨szL rfl, fun p18 pn18 => ?_⟩
      generalize e18 : upd H17 p18 _ = H18
      obtain ⟨M18, g18, hp18⟩ := new_of e18 w.inn pn18
      replace top := top.trans g18.ex
      replace w := w.grow g18
      replace near := near.mono g18.ex
      replace late := late.mono g18.ex
      replace how := how.mono g18.ex
      replace t16 := t16.mono g18.ex
      replace k17 := k17.mono g18.ex
      have t18 : Pow M18 (.ref p18) := ⟨p18, r17, _, _, rfl, hp18, k17, (bd_oft b2 sm).up (by decide +kernel), by omega, sm2⟩
      refine ⟨szL rfl, fun p19 pn19 => ?_⟩
      generalize e19 : upd H18 p19 _ = H19
      obtain ⟨M19, g19, hp19⟩ := new_of e19 w.inn pn19
      have k19 : PairAt M19 (.ref p19) (1, 0) := ⟨p19, rfl, hp19⟩
      replace top := top.trans g19.ex
      replace w := w.grow g19
      replace near := near.mono g19.ex
      replace late := late.mono g19.ex
      replace how := how.mono g19.ex
      replace t16 := t16.mono g19.ex
      replace t18 := t18.mono g19.ex
      refine ⟨_, rfl, ?_⟩
      refine ⟨szL rfl, fun p20 pn20 => ?_⟩
      generalize e20 : upd H19 p20 _ = H20
      obtain ⟨M20, g20, hp20⟩ := new_of e20 w.inn pn20
      replace top := top.trans g20.ex
      replace w := w.grow g20
      replace near := near.mono g20.ex
      replace late := late.mono g20.ex
      replace how := how.mono g20.ex
      replace t16 := t16.mono g20.ex
      replace t18 := t18.mono g20.ex
      replace k19 := k19.mono g20.ex
      have t20 : Pow M20 (.ref p20) := ⟨p20, _, _, m, rfl, hp20, k19, ⟨.inl rfl, Nat.zero_le _⟩, m1, m2⟩
      refine ⟨_, rfl, ?_⟩
      refine ⟨szL rfl, fun p21 pn21 => ?_⟩
      generalize e21 : upd H20 p21 _ = H21
      obtain ⟨M21, g21, hp21⟩ := new_of e21 w.inn pn21
      replace top := top.trans g21.ex
      replace w := w.grow g21
      replace how := how.mono g21.ex
      replace t16 := t16.mono g21.ex
      replace t18 := t18.mono g21.ex
      replace t20 := t20.mono g21.ex
      have t21 : Pow M21 (.ref p21) := ⟨p21, r3, s3, 2, rfl, hp21, how, b3.up (by decide +kernel), by decide, by decide +kernel⟩
      refine ⟨_, rfl, ?_⟩
      refine ⟨szL rfl, fun p22 pn22 => ?_⟩
      generalize e22 : upd H21 p22 _ = H22
      obtain ⟨M22, g22, hp22⟩ := new_of e22 w.inn pn22
      replace top := top.trans g22.ex
      replace w := w.grow g22
      replace how := how.mono g22.ex
      replace t16 := t16.mono g22.ex
      replace t18 := t18.mono g22.ex
      replace t20 := t20.mono g22.ex
      replace t21 := t21.mono g22.ex
      have t22 : Pow M22 (.ref p22) := ⟨p22, r3, s3, 3, rfl, hp22, how, b3.up (by decide +kernel), by decide, by decide +kernel⟩
      refine ⟨szL rfl, fun p23 pn23 => ?_⟩
      generalize e23 : upd H22 p23 _ = H23
      obtain ⟨M23, g23, hp23⟩ := new_of e23 w.inn pn23
      have ls2 : At M23 p23 (.lst [.ref p16, .ref p18, .ref p20, .ref p21, .ref p22]) := hp23
      replace top := top.trans g23.ex
      replace w := w.grow g23
      replace t16 := t16.mono g23.ex
      replace t18 := t18.mono g23.ex
      replace t20 := t20.mono g23.ex
      replace t21 := t21.mono g23.ex
      replace t22 := t22.mono g23.ex
      refine ⟨p23, rfl, ⟨_, SqL.of (w.inn _ _ ls2)⟩, ?_⟩
      refine for_list (xs := [.ref p16, .ref p18, .ref p20, .ref p21, .ref p22]) (fun j σ H2' => ∃ M2' z1 z2, σ = [some (.ref v), some (.int (0 + (i : Int))), some r1, some r2, some r3, some r4, y, some (.int m), some (.int (1 + r15)), z1, z2] ∧ Gr M23 H23 M2' H2') ⟨M23, y9, y10, rfl, Gr.refl w.inn⟩ ?_ ?_ ?_
      · rintro j σ H2' hj ⟨M2', z1, z2, rfl, g'⟩
        exact SqL.of (g'.inn _ _ (g'.ex _ _ ls2))
      · rintro j x σ H2' hx ⟨M2', z1, z2, rfl, g'⟩
        have tx : Pow M2' x := by
          match j, hx with
          | 0, hx => cases hx; exact t16.mono g'.ex
          | 1, hx => cases hx; exact t18.mono g'.ex
          | 2, hx => cases hx; exact t20.mono g'.ex
          | 3, hx => cases hx; exact t21.mono g'.ex
          | 4, hx => cases hx; exact t22.mono g'.ex
          | j + 5, hx => simp at hx
        obtain ⟨px, xu, sx, mx, rfl, hpx, ku, bu, n1, n2⟩ := tx
        refine ⟨px, _, rfl, SqT.of (g'.inn _ _ hpx), rfl, _, _, rfl, _, _, rfl, rfl, ?_⟩
        refine ⟨_, rfl, _, rfl, _, _, rfl, M2', sx, mx, g'.inn, ku, rfl, bu, n1, n2, fun M24 H24 g24 => ⟨_, rfl, iteF ?_⟩⟩
        exact ⟨M24, _, _, rfl, g'.trans g24⟩
      · rintro σ H2' ⟨M2', z1, z2, rfl, g'⟩
        exact ⟨M2', _, _, _, _, _, _, _, _, _, _, rfl, top.trans g'.ex, (w.grow g').mono (by omega)⟩
  · rintro σ H' ⟨M', y1, y2, y3, y4, y5, y6, y7, y8, y9, y10, rfl, top, w⟩
    exact q H' (top.trans w.inn)
end

end K33

namespace K33
open PySem PySem.Spec PyProof.Rows L2 Own
section
variable {P : Program} {w : World} {K : PySem.W.Frag} {mg : Str → Option Value} {base : Heap} {a : Ad}
/-- the drawer is made of the script -/
def spVial (K : PySem.W.Frag) : Sp := sp2 fun x y H Q => ∃ p, ∃ ns : List Int, ∃ t, x = .ref p ∧ y = .int t ∧ SqL K H p (ns.map V.int) ∧ ns.length ≤ 63 ∧ (t = 0 ∨ t = 1) ∧
  ∀ v H' x y, Same H H' → H v = none → H' v = some (.lst [.int x, .int y, .int 0]) → 0 ≤ x → Q (.ref v) H'
theorem abs_nn (i : Int) : 0 ≤ (if i < 0 then -i else i) := by split <;> omega
theorem ok_l_vial (T : Txt K mg a) : FnOk P w K mg base CX0 1 a.f_l_vial a.d_l_vial ["_law_script", "_law_turn"] (spVial K) := by
  refine T.F_l_vial.ok sc_l_vial (len2 rfl) (fun cdv A outer s H vs Q E hr h => ?_)
  obtain ⟨_, _, rfl, p, ns, t, rfl, rfl, hS, hl, ht, q⟩ := h
  refine ⟨_, (pss_cons (ps_set (i := 2) sc_l_vial.nd rfl (.inl rfl) (pe_op op_add pe_int (pe_op op_mul pe_int (pv 1))))
      (pss_cons (ps_for PassesOwn.never rfl (pi_list (pe_slice sl_list (pv 0) po_none (po_some pe_int))) (pg_name (i := 3) sc_l_vial.nd rfl (.inl rfl))
      (pss_one (ps_set (i := 2) sc_l_vial.nd rfl (.inl rfl) (pe_op op_mod (pe_callTy call_int1 (by rfl) T.z_int (by decide +kernel) (pa_cons (pe_op op_add (pe_op op_mul (pv 2) pe_int) (pv 3)) pa_nil)) pe_int))))
      (pss_cons (ps_set (i := 4) sc_l_vial.nd rfl (.inl rfl) (pe_ifExp (pt_cmpR op_lt (pv 1) (pe_callB call_len_seq (by rfl) T.z_len (by decide +kernel) (pa_cons (pv 0) pa_nil)) (nomark _)) (pe_ix ix_list (pv 0) (pv 1) (fun _ _ => rfl)) (pe_op op_add (pe_op op_mul pe_int (pv 1)) pe_int)))
      (pss_one (ps_ret (pe_lst (pa_cons (pe_ifExp (pt_cmpR op_ge (pe_callB call_abs (by rfl) T.z_abs (by decide +kernel) (pa_cons (pv 4) pa_nil)) (pe_op op_pow pe_int pe_int) (nomark _)) (pe_callB call_abs (by rfl) T.z_abs (by decide +kernel) (pa_cons (pv 4) pa_nil)) pe_int) (pa_cons (pe_op op_mod (pe_callTy call_int1 (by rfl) T.z_int (by decide +kernel) (pa_cons (pe_op op_add (pe_op op_add (pe_op op_mul (pv 2) pe_int) (pe_op op_mul (pv 4) pe_int)) pe_int) pa_nil)) pe_int) (pa_cons pe_int pa_nil))))))))), ?_⟩
  refine ⟨_, rfl, _, _, rfl, rfl, .inl ⟨by decide, by decide⟩, _, _, rfl, rfl, ?_⟩
  refine ⟨_, rfl, 6, rfl, p, _, rfl, hS, fun c nc => ?_⟩
  have cutI : ∃ ms : List Int, cutV (ns.map V.int) none (some 6) = ms.map V.int := ⟨_, by unfold cutV; rw [← List.map_drop, ← List.map_take]⟩
  obtain ⟨ms, ems⟩ := cutI
  rw [ems]
  have sc1 : Same H (upd H c (.lst (ms.map V.int))) := same_new nc
  refine ⟨c, rfl, ⟨_, SqL.of upd_same⟩, ?_⟩
  refine for_list (xs := ms.map V.int) (fun i σ H' => ∃ mx y, σ = [some (.ref p), some (.int t), some (.int mx), y, none] ∧ H' = upd H c (.lst (ms.map V.int))) ⟨_, none, rfl, rfl⟩ ?_ ?_ ?_
  · rintro i σ H' hi ⟨mx, y, rfl, rfl⟩
    exact SqL.of upd_same
  · rintro i x σ H' hx ⟨mx, y, rfl, rfl⟩
    obtain ⟨k, rfl⟩ : ∃ k : Int, x = .int k := by
      have := List.mem_of_getElem? hx
      rw [List.mem_map] at this
      obtain ⟨k, _, rfl⟩ := this
      exact ⟨k, rfl⟩
    exact ⟨_, rfl, _, _, rfl, rfl, .inr ⟨by decide, by decide⟩, _, rfl, _, _, rfl, rfl, .inl ⟨_, rfl, _, _, rfl, rfl, (by show (0 : Int) < 2147479753; decide), _, _, rfl, rfl⟩⟩
  · rintro σ H' ⟨mx, y, rfl, rfl⟩
    have hS2 := sc1.seq hS
    refine ⟨_, rfl, _, rfl, p, _, rfl, .inl hS2, _, _, rfl, rfl, _, rfl, ?_⟩
    have fin : ∀ own : Int, (tRet (tLst (tCons (tIf (tTest (tOp (rI0 fun i j => V.bl (decide (j ≤ i))) (tCB (fun xs H Q => ∃ i, xs = [.int i] ∧ Q (.int (if i < 0 then -i else i)) H) (tCons (tVar 4) tNil)) (tOp (rI CPow fun i j => V.int (i ^ j.toNat)) (tC (.int 10)) (tC (.int 17)))))
        (tCB (fun xs H Q => ∃ i, xs = [.int i] ∧ Q (.int (if i < 0 then -i else i)) H) (tCons (tVar 4) tNil)) (tC (.int 0))) (tCons (tOp (rI (fun _ j => 0 < j) fun i j => .int (i % j)) (tCB (fun xs H Q => (∃ i, xs = [.int i] ∧ Q (.int i) H) ∨ ∃ k, xs = [.bl k] ∧ Q (.int (if k then 1 else 0)) H)
        (tCons (tOp (rI0 fun i j => V.int (i + j)) (tOp (rI0 fun i j => V.int (i + j)) (tOp (rI CMul fun i j => .int (i * j)) (tVar 2) (tC (.int 131))) (tOp (rI CMul fun i j => .int (i * j)) (tVar 4) (tC (.int 97)))) (tC (.int 73))) tNil)) (tC (.int 2147479753))) (tCons (tC (.int 0)) tNil)))))
        { nx := fun _ H' => Q .non H', rt := Q } [some (.ref p), some (.int t), some (.int mx), y, some (.int own)] (upd H c (.lst (ms.map V.int))) := by
      intro own
      have last : ∀ b : Int, 0 ≤ b → ∀ z : Int, [V.int b, V.int z, V.int 0].length ≤ sizeLine ∧ ∀ v, (upd H c (.lst (ms.map V.int))) v = none → Q (.ref v) (upd (upd H c (.lst (ms.map V.int))) v (.lst [.int b, .int z, .int 0])) := by
        intro b hb z
        refine ⟨szL rfl, fun v nv => ?_⟩
        exact q v _ b z (sc1.trans (same_new nv)) (sc1.free nv) upd_same hb
      refine ⟨_, rfl, _, rfl, _, _, rfl, rfl, ⟨by decide, by decide, by decide⟩, _, _, rfl, rfl, _, rfl, ite2 (fun e => ?_) (fun e => ?_)⟩
      · refine ⟨_, rfl, _, rfl, _, rfl, _, _, rfl, rfl, .inr ⟨by decide, by decide⟩, _, rfl, _, _, rfl, rfl, .inr ⟨by decide, by decide⟩, _, _, rfl, rfl, _, _, rfl, rfl, .inl ⟨_, rfl, _, _, rfl, rfl, (by show (0 : Int) < 2147479753; decide), ?_⟩⟩
        exact last _ (abs_nn own) _
      · refine ⟨_, rfl, _, _, rfl, rfl, .inr ⟨by decide, by decide⟩, _, rfl, _, _, rfl, rfl, .inr ⟨by decide, by decide⟩, _, _, rfl, rfl, _, _, rfl, rfl, .inl ⟨_, rfl, _, _, rfl, rfl, (by show (0 : Int) < 2147479753; decide), ?_⟩⟩
        exact last 0 (Int.le_refl _) _
    refine ite2 (fun e => ?_) (fun e => ?_)
    · have lt : t < ((ns.map V.int).length : Int) := of_decide_eq_true e
      obtain ⟨k, rfl⟩ := Int.eq_ofNat_of_zero_le (show 0 ≤ t by omega)
      have hk : k < ns.length := by rw [List.length_map] at lt; omega
      refine ⟨_, rfl, _, rfl, p, _, (k : Int), .int ns[k], rfl, rfl, hS2, atI_nat (by rw [List.getElem?_map, List.getElem?_eq_getElem hk]; rfl), ?_⟩
      exact fin ns[k]
    · refine ⟨_, rfl, _, _, rfl, rfl, .inl ⟨by decide, by decide⟩, _, _, rfl, rfl, ?_⟩
      exact fin _
end

end K33

namespace K33
open PySem PySem.Spec PyProof.Rows L2 Own
section
variable {P : Program} {w : World} {K : PySem.W.Frag} {mg : Str → Option Value} {base : Heap} {a : Ad}
/-- the law -/
def spLaw (K : PySem.W.Frag) : Sp := sp1 fun x H Q => ∃ p, ∃ ns : List Int, x = .ref p ∧ SqL K H p (ns.map V.int) ∧ ns.length ≤ 63 ∧ ∀ H', Q (.bl true) H'
theorem ok_law (T : Txt K mg a) : FnG P w K mg base 12 a.f_law a.d_law ["_law_script"] (spLaw K) := by
  refine okG T.F_law sc_law (len1 rfl) (fun cdv A outer s H vs Q E hg hr h => ?_)
  obtain ⟨_, rfl, p, ns, rfl, hS, hl, q⟩ := h
  refine ⟨_, (pss_one (ps_ret (pe_callB (cr_all rfl) (by rfl) T.z_all (by decide +kernel) (pa_cons (pe_lc (own := [("_law_turn", 1)]) (g := gName 1) (tt := tYes) rfl sc_law.nd (pi_range1 (by rfl) T.z_range (pa_cons pe_int pa_nil)) (blkOk_by (own := [("_law_turn", 1)]) (N := ["_law_script", "_law_turn"]) (sc := defScope s_law) (by decide +kernel)) (fun _ _ _ _ _ => (pg_name (i := 1) sc_law.nd rfl (.inl rfl))) (fun _ _ _ _ _ => pts_nil) (fun _ _ _ _ _ => (pe_callG (ok_l_right T) hg (hr.mono (by decide)) (by rfl) T.g_l_right T.F_l_right.kp T.b_l_right (pa_cons (pe_call (ok_l_vial T) (hr.mono (by decide)) (by rfl) T.g_l_vial T.F_l_vial.kp T.b_l_vial .nil pass0 (pa_cons (pv 0) (pa_cons (pv 1) pa_nil))) pa_nil)))) pa_nil)))), ?_⟩
  refine ⟨2, rfl, by decide, by decide, fun D nD => ?_⟩
  refine lc_range (n := 2) (fun i H' => Same H H' ∧ H' D = some (.lst ((List.replicate i true).map V.bl))) ?_ ?_ ?_
  · exact ⟨same_new nD, upd_same⟩
  · rintro i H1 hi ⟨e1, d1⟩
    refine ⟨rfl, yes_if ?_⟩
    refine ⟨_, rfl, _, rfl, _, _, rfl, p, ns, _, rfl, rfl, e1.seq hS, hl, by omega, fun v H2 x y e2 nv hv hx => ?_⟩
    refine ⟨_, rfl, v, H1, rfl, ⟨e2, nv, x, y, 0, hv, hx, by decide, by decide⟩, fun H3 e3 => ?_⟩
    refine ⟨_, e3 _ _ d1, ?_, ?_, ?_⟩
    · rw [List.length_map, List.length_replicate]
      exact small1000 (by omega)
    · intro b o h
      rw [upd_ne (ne_of_none h nD)]
      exact e3 _ _ (e1 _ _ h)
    · rw [upd_same, List.replicate_succ', List.map_append]
      rfl
  · rintro H1 ⟨e1, d1⟩
    exact ⟨D, [true, true], rfl, SqL.of d1, q _⟩
end

end K33

namespace K33
open PySem PySem.Spec PyProof.Rows L2 Own
set_option maxHeartbeats 0 in
theorem all_mk {P : Program} {w : World} {K : PySem.W.Frag} {h : Heap} {mg : Str → Option Value} {fa : Addr} (X : K.In h) (G : h.Ns mainGlobals mg) (hfa : mg "law" = some (.ref fa))
    {f_1 : Addr} {od_1 an_1 : Option Addr} {sl_1 : Array (Option Value)} {oc_1 kV_1 dc_1 pm_1 cd_1 ct_1 : Value}
    {f_2 : Addr} {od_2 an_2 : Option Addr} {sl_2 : Array (Option Value)} {oc_2 kV_2 dc_2 pm_2 cd_2 ct_2 : Value}
    {f_3 : Addr} {od_3 an_3 : Option Addr} {sl_3 : Array (Option Value)} {oc_3 kV_3 dc_3 pm_3 cd_3 ct_3 : Value}
    {f_4 : Addr} {od_4 an_4 : Option Addr} {sl_4 : Array (Option Value)} {oc_4 kV_4 dc_4 pm_4 cd_4 ct_4 : Value}
    {f_5 : Addr} {od_5 an_5 : Option Addr} {sl_5 : Array (Option Value)} {oc_5 kV_5 dc_5 pm_5 cd_5 ct_5 : Value}
    {f_6 : Addr} {od_6 an_6 : Option Addr} {sl_6 : Array (Option Value)} {oc_6 kV_6 dc_6 pm_6 cd_6 ct_6 : Value}
    {f_7 : Addr} {od_7 an_7 : Option Addr} {sl_7 : Array (Option Value)} {oc_7 kV_7 dc_7 pm_7 cd_7 ct_7 : Value}
    {f_8 : Addr} {od_8 an_8 : Option Addr} {sl_8 : Array (Option Value)} {oc_8 kV_8 dc_8 pm_8 cd_8 ct_8 : Value}
    {f_9 : Addr} {od_9 an_9 : Option Addr} {sl_9 : Array (Option Value)} {oc_9 kV_9 dc_9 pm_9 cd_9 ct_9 : Value}
    {f_10 : Addr} {od_10 an_10 : Option Addr} {sl_10 : Array (Option Value)} {oc_10 kV_10 dc_10 pm_10 cd_10 ct_10 : Value}
    {f_11 : Addr} {od_11 an_11 : Option Addr} {sl_11 : Array (Option Value)} {oc_11 kV_11 dc_11 pm_11 cd_11 ct_11 : Value}
    {f_12 : Addr} {od_12 an_12 : Option Addr} {sl_12 : Array (Option Value)} {oc_12 kV_12 dc_12 pm_12 cd_12 ct_12 : Value}
    {f_13 : Addr} {od_13 an_13 : Option Addr} {sl_13 : Array (Option Value)} {oc_13 kV_13 dc_13 pm_13 cd_13 ct_13 : Value}
    {f_14 : Addr} {od_14 an_14 : Option Addr} {sl_14 : Array (Option Value)} {oc_14 kV_14 dc_14 pm_14 cd_14 ct_14 : Value}
    {f_15 : Addr} {od_15 an_15 : Option Addr} {sl_15 : Array (Option Value)} {oc_15 kV_15 dc_15 pm_15 cd_15 ct_15 : Value}
    {f_16 : Addr} {od_16 an_16 : Option Addr} {sl_16 : Array (Option Value)} {oc_16 kV_16 dc_16 pm_16 cd_16 ct_16 : Value}
    {f_17 : Addr} {od_17 an_17 : Option Addr} {sl_17 : Array (Option Value)} {oc_17 kV_17 dc_17 pm_17 cd_17 ct_17 : Value}
    {f_18 : Addr} {od_18 an_18 : Option Addr} {sl_18 : Array (Option Value)} {oc_18 kV_18 dc_18 pm_18 cd_18 ct_18 : Value}
    {f_19 : Addr} {od_19 an_19 : Option Addr} {sl_19 : Array (Option Value)} {oc_19 kV_19 dc_19 pm_19 cd_19 ct_19 : Value}
    {f_20 : Addr} {od_20 an_20 : Option Addr} {sl_20 : Array (Option Value)} {oc_20 kV_20 dc_20 pm_20 cd_20 ct_20 : Value}
    {f_21 : Addr} {od_21 an_21 : Option Addr} {sl_21 : Array (Option Value)} {oc_21 kV_21 dc_21 pm_21 cd_21 ct_21 : Value}
    {f_22 : Addr} {od_22 an_22 : Option Addr} {sl_22 : Array (Option Value)} {oc_22 kV_22 dc_22 pm_22 cd_22 ct_22 : Value}
    {f_23 : Addr} {od_23 an_23 : Option Addr} {sl_23 : Array (Option Value)} {oc_23 kV_23 dc_23 pm_23 cd_23 ct_23 : Value}
    {f_24 : Addr} {od_24 an_24 : Option Addr} {sl_24 : Array (Option Value)} {oc_24 kV_24 dc_24 pm_24 cd_24 ct_24 : Value}
    {f_25 : Addr} {od_25 an_25 : Option Addr} {sl_25 : Array (Option Value)} {oc_25 kV_25 dc_25 pm_25 cd_25 ct_25 : Value}
    {f_26 : Addr} {od_26 an_26 : Option Addr} {sl_26 : Array (Option Value)} {oc_26 kV_26 dc_26 pm_26 cd_26 ct_26 : Value}
    {f_27 : Addr} {od_27 an_27 : Option Addr} {sl_27 : Array (Option Value)} {oc_27 kV_27 dc_27 pm_27 cd_27 ct_27 : Value}
    {f_28 : Addr} {od_28 an_28 : Option Addr} {sl_28 : Array (Option Value)} {oc_28 kV_28 dc_28 pm_28 cd_28 ct_28 : Value}
    {f_29 : Addr} {od_29 an_29 : Option Addr} {sl_29 : Array (Option Value)} {oc_29 kV_29 dc_29 pm_29 cd_29 ct_29 : Value}
    {f_30 : Addr} {od_30 an_30 : Option Addr} {sl_30 : Array (Option Value)} {oc_30 kV_30 dc_30 pm_30 cd_30 ct_30 : Value}
    {f_31 : Addr} {od_31 an_31 : Option Addr} {sl_31 : Array (Option Value)} {oc_31 kV_31 dc_31 pm_31 cd_31 ct_31 : Value}
    {f_32 : Addr} {od_32 an_32 : Option Addr} {sl_32 : Array (Option Value)} {oc_32 kV_32 dc_32 pm_32 cd_32 ct_32 : Value}
    {C_Slide : Addr}
    {p_Slide_side : Addr} {rest_Slide_side : List Value}
    {p_Slide_shift : Addr} {rest_Slide_shift : List Value}
    (a_1 : PySem.W.nsIn K mainGlobals "is_integer" = some (some (.ref f_1)))
    (a_7 : PySem.W.nsIn K mainGlobals "still_slide" = some (some (.ref f_7)))
    (a_8 : PySem.W.nsIn K mainGlobals "check_slide" = some (some (.ref f_8)))
    (a_9 : PySem.W.nsIn K mainGlobals "check_slides" = some (some (.ref f_9)))
    (a_10 : PySem.W.nsIn K mainGlobals "put_slides" = some (some (.ref f_10)))
    (a_11 : PySem.W.nsIn K mainGlobals "many_slides" = some (some (.ref f_11)))
    (a_12 : PySem.W.nsIn K mainGlobals "slide_link" = some (some (.ref f_12)))
    (a_13 : PySem.W.nsIn K mainGlobals "slide_often" = some (some (.ref f_13)))
    (a_14 : PySem.W.nsIn K mainGlobals "is_slide_alike" = some (some (.ref f_14)))
    (a_15 : PySem.W.nsIn K mainGlobals "slide_alike" = some (some (.ref f_15)))
    (a_16 : PySem.W.nsIn K mainGlobals "do_slides_commute" = some (some (.ref f_16)))
    (a_17 : PySem.W.nsIn K mainGlobals "slide_root" = some (some (.ref f_17)))
    (a_18 : PySem.W.nsIn K mainGlobals "_law_vial" = some (some (.ref f_18)))
    (a_19 : PySem.W.nsIn K mainGlobals "_law_nip" = some (some (.ref f_19)))
    (a_20 : PySem.W.nsIn K mainGlobals "_law_opt" = some (some (.ref f_20)))
    (a_21 : PySem.W.nsIn K mainGlobals "_law_pair" = some (some (.ref f_21)))
    (a_22 : PySem.W.nsIn K mainGlobals "_law_then" = some (some (.ref f_22)))
    (a_23 : PySem.W.nsIn K mainGlobals "_law_undone" = some (some (.ref f_23)))
    (a_24 : PySem.W.nsIn K mainGlobals "_law_kept" = some (some (.ref f_24)))
    (a_25 : PySem.W.nsIn K mainGlobals "_law_put" = some (some (.ref f_25)))
    (a_26 : PySem.W.nsIn K mainGlobals "_law_is_like" = some (some (.ref f_26)))
    (a_27 : PySem.W.nsIn K mainGlobals "_law_often" = some (some (.ref f_27)))
    (a_28 : PySem.W.nsIn K mainGlobals "_law_has_root" = some (some (.ref f_28)))
    (a_29 : PySem.W.nsIn K mainGlobals "_law_pair_right" = some (some (.ref f_29)))
    (a_30 : PySem.W.nsIn K mainGlobals "_law_root_right" = some (some (.ref f_30)))
    (a_31 : PySem.W.nsIn K mainGlobals "_law_right" = some (some (.ref f_31)))
    (a_32 : PySem.W.nsIn K mainGlobals "law" = some (some (.ref f_32)))
    (q_Slide : PySem.W.nsIn K mainGlobals "Slide" = some (some (.ref C_Slide)))
    (pa_Slide_side : PySem.W.findIn K (.ref C_Slide) "side" = some (some (.ref p_Slide_side)))
    (pg_Slide_side : PySem.W.specialIn K (.ref p_Slide_side) "__get__" = some (some (.builtin "property.__get__")))
    (pt_Slide_side : PySem.W.takesIn K (.ref p_Slide_side) = some true)
    (pr_Slide_side : PySem.W.recIn K p_Slide_side "property" = some (.ref f_3 :: rest_Slide_side))
    (pa_Slide_shift : PySem.W.findIn K (.ref C_Slide) "shift" = some (some (.ref p_Slide_shift)))
    (pg_Slide_shift : PySem.W.specialIn K (.ref p_Slide_shift) "__get__" = some (some (.builtin "property.__get__")))
    (pt_Slide_shift : PySem.W.takesIn K (.ref p_Slide_shift) = some true)
    (pr_Slide_shift : PySem.W.recIn K p_Slide_shift "property" = some (.ref f_4 :: rest_Slide_shift))
    (in_Slide : PySem.W.findIn K (.ref C_Slide) "__init__" = some (some (.ref f_2)))
    (if_Slide : PySem.W.isFn K (.ref f_2) = true)
    (mk_Slide : PySem.W.makesIn K C_Slide = true)
    (kc_Slide : PySem.W.keepIn K (.ref C_Slide) = true)
    (pg_Slide : PySem.W.plainGet K C_Slide Str.empty = true)
    (hd_Slide : PySem.W.hasDictIn K C_Slide = true)
    (po_Slide : PySem.W.plainOver K C_Slide = true)
    (sa_Slide : PySem.W.findIn K (.ref C_Slide) "__setattr__" = some (some (.builtin "object.__setattr__")))
    (ha_Slide : PySem.W.findIn K (.ref C_Slide) "__class__" = some (some (.builtin "object.__class__")))
    (hn_Slide : PySem.W.specialIn K (.builtin "object.__class__") "__get__" = some (some (.builtin "getset_descriptor.__get__")))
    (ht_Slide : PySem.W.takesIn K (.builtin "object.__class__") = some true)
    (hm_Slide : PySem.W.mroIn K C_Slide (.type "object") = some true)
    (nf_Slide_own_side : PySem.W.findIn K (.ref C_Slide) "own_side" = some none)
    (nf_Slide_own_shift : PySem.W.findIn K (.ref C_Slide) "own_shift" = some none)
    (st_Slide : PySem.W.findIn K (.ref C_Slide) "__str__" = some (some (.ref f_5)))
    (sf_Slide : PySem.W.isFn K (.ref f_5) = true)
    (eq_Slide : PySem.W.findIn K (.ref C_Slide) "__eq__" = some (some (.ref f_6)))
    (ef_Slide : PySem.W.isFn K (.ref f_6) = true)
    (ne_Slide : PySem.W.findIn K (.ref C_Slide) "__ne__" = some (some (.builtin "object.__ne__")))
    (l_1 : K.lookup f_1 = some ⟨oc_1, od_1, .func (PySem.W.fnOf "is_integer" "is_integer" (defArgs s_is_integer) (defBody s_is_integer) (defScope s_is_integer) .none kV_1 dc_1 pm_1 an_1 cd_1 ct_1), sl_1⟩)
    (c_1 : PySem.W.codeIn K cd_1 "is_integer" = true)
    (k_1 : PySem.W.keepIn K (.ref f_1) = true)
    (l_2 : K.lookup f_2 = some ⟨oc_2, od_2, .func (PySem.W.fnOf "__init__" "Slide.__init__" (defArgs s_Slide_init) (defBody s_Slide_init) (defScope s_Slide_init) .none kV_2 dc_2 pm_2 an_2 cd_2 ct_2), sl_2⟩)
    (c_2 : PySem.W.codeIn K cd_2 "Slide.__init__" = true)
    (k_2 : PySem.W.keepIn K (.ref f_2) = true)
    (l_3 : K.lookup f_3 = some ⟨oc_3, od_3, .func (PySem.W.fnOf "side" "Slide.side" (defArgs s_Slide_side) (defBody s_Slide_side) (defScope s_Slide_side) .none kV_3 dc_3 pm_3 an_3 cd_3 ct_3), sl_3⟩)
    (c_3 : PySem.W.codeIn K cd_3 "Slide.side" = true)
    (k_3 : PySem.W.keepIn K (.ref f_3) = true)
    (l_4 : K.lookup f_4 = some ⟨oc_4, od_4, .func (PySem.W.fnOf "shift" "Slide.shift" (defArgs s_Slide_shift) (defBody s_Slide_shift) (defScope s_Slide_shift) .none kV_4 dc_4 pm_4 an_4 cd_4 ct_4), sl_4⟩)
    (c_4 : PySem.W.codeIn K cd_4 "Slide.shift" = true)
    (k_4 : PySem.W.keepIn K (.ref f_4) = true)
    (l_5 : K.lookup f_5 = some ⟨oc_5, od_5, .func (PySem.W.fnOf "__str__" "Slide.__str__" (defArgs s_Slide_str) (defBody s_Slide_str) (defScope s_Slide_str) .none kV_5 dc_5 pm_5 an_5 cd_5 ct_5), sl_5⟩)
    (c_5 : PySem.W.codeIn K cd_5 "Slide.__str__" = true)
    (k_5 : PySem.W.keepIn K (.ref f_5) = true)
    (l_6 : K.lookup f_6 = some ⟨oc_6, od_6, .func (PySem.W.fnOf "__eq__" "Slide.__eq__" (defArgs s_Slide_eq) (defBody s_Slide_eq) (defScope s_Slide_eq) .none kV_6 dc_6 pm_6 an_6 cd_6 ct_6), sl_6⟩)
    (c_6 : PySem.W.codeIn K cd_6 "Slide.__eq__" = true)
    (k_6 : PySem.W.keepIn K (.ref f_6) = true)
    (l_7 : K.lookup f_7 = some ⟨oc_7, od_7, .func (PySem.W.fnOf "still_slide" "still_slide" (defArgs s_still_slide) (defBody s_still_slide) (defScope s_still_slide) .none kV_7 dc_7 pm_7 an_7 cd_7 ct_7), sl_7⟩)
    (c_7 : PySem.W.codeIn K cd_7 "still_slide" = true)
    (k_7 : PySem.W.keepIn K (.ref f_7) = true)
    (l_8 : K.lookup f_8 = some ⟨oc_8, od_8, .func (PySem.W.fnOf "check_slide" "check_slide" (defArgs s_check_slide) (defBody s_check_slide) (defScope s_check_slide) .none kV_8 dc_8 pm_8 an_8 cd_8 ct_8), sl_8⟩)
    (c_8 : PySem.W.codeIn K cd_8 "check_slide" = true)
    (k_8 : PySem.W.keepIn K (.ref f_8) = true)
    (l_9 : K.lookup f_9 = some ⟨oc_9, od_9, .func (PySem.W.fnOf "check_slides" "check_slides" (defArgs s_check_slides) (defBody s_check_slides) (defScope s_check_slides) .none kV_9 dc_9 pm_9 an_9 cd_9 ct_9), sl_9⟩)
    (c_9 : PySem.W.codeIn K cd_9 "check_slides" = true)
    (k_9 : PySem.W.keepIn K (.ref f_9) = true)
    (l_10 : K.lookup f_10 = some ⟨oc_10, od_10, .func (PySem.W.fnOf "put_slides" "put_slides" (defArgs s_put_slides) (defBody s_put_slides) (defScope s_put_slides) .none kV_10 dc_10 pm_10 an_10 cd_10 ct_10), sl_10⟩)
    (c_10 : PySem.W.codeIn K cd_10 "put_slides" = true)
    (k_10 : PySem.W.keepIn K (.ref f_10) = true)
    (l_11 : K.lookup f_11 = some ⟨oc_11, od_11, .func (PySem.W.fnOf "many_slides" "many_slides" (defArgs s_many_slides) (defBody s_many_slides) (defScope s_many_slides) .none kV_11 dc_11 pm_11 an_11 cd_11 ct_11), sl_11⟩)
    (c_11 : PySem.W.codeIn K cd_11 "many_slides" = true)
    (k_11 : PySem.W.keepIn K (.ref f_11) = true)
    (l_12 : K.lookup f_12 = some ⟨oc_12, od_12, .func (PySem.W.fnOf "slide_link" "slide_link" (defArgs s_slide_link) (defBody s_slide_link) (defScope s_slide_link) .none kV_12 dc_12 pm_12 an_12 cd_12 ct_12), sl_12⟩)
    (c_12 : PySem.W.codeIn K cd_12 "slide_link" = true)
    (k_12 : PySem.W.keepIn K (.ref f_12) = true)
    (l_13 : K.lookup f_13 = some ⟨oc_13, od_13, .func (PySem.W.fnOf "slide_often" "slide_often" (defArgs s_slide_often) (defBody s_slide_often) (defScope s_slide_often) .none kV_13 dc_13 pm_13 an_13 cd_13 ct_13), sl_13⟩)
    (c_13 : PySem.W.codeIn K cd_13 "slide_often" = true)
    (k_13 : PySem.W.keepIn K (.ref f_13) = true)
    (l_14 : K.lookup f_14 = some ⟨oc_14, od_14, .func (PySem.W.fnOf "is_slide_alike" "is_slide_alike" (defArgs s_is_slide_alike) (defBody s_is_slide_alike) (defScope s_is_slide_alike) .none kV_14 dc_14 pm_14 an_14 cd_14 ct_14), sl_14⟩)
    (c_14 : PySem.W.codeIn K cd_14 "is_slide_alike" = true)
    (k_14 : PySem.W.keepIn K (.ref f_14) = true)
    (l_15 : K.lookup f_15 = some ⟨oc_15, od_15, .func (PySem.W.fnOf "slide_alike" "slide_alike" (defArgs s_slide_alike) (defBody s_slide_alike) (defScope s_slide_alike) .none kV_15 dc_15 pm_15 an_15 cd_15 ct_15), sl_15⟩)
    (c_15 : PySem.W.codeIn K cd_15 "slide_alike" = true)
    (k_15 : PySem.W.keepIn K (.ref f_15) = true)
    (l_16 : K.lookup f_16 = some ⟨oc_16, od_16, .func (PySem.W.fnOf "do_slides_commute" "do_slides_commute" (defArgs s_do_slides_commute) (defBody s_do_slides_commute) (defScope s_do_slides_commute) .none kV_16 dc_16 pm_16 an_16 cd_16 ct_16), sl_16⟩)
    (c_16 : PySem.W.codeIn K cd_16 "do_slides_commute" = true)
    (k_16 : PySem.W.keepIn K (.ref f_16) = true)
    (l_17 : K.lookup f_17 = some ⟨oc_17, od_17, .func (PySem.W.fnOf "slide_root" "slide_root" (defArgs s_slide_root) (defBody s_slide_root) (defScope s_slide_root) .none kV_17 dc_17 pm_17 an_17 cd_17 ct_17), sl_17⟩)
    (c_17 : PySem.W.codeIn K cd_17 "slide_root" = true)
    (k_17 : PySem.W.keepIn K (.ref f_17) = true)
    (l_18 : K.lookup f_18 = some ⟨oc_18, od_18, .func (PySem.W.fnOf "_law_vial" "_law_vial" (defArgs s_l_vial) (defBody s_l_vial) (defScope s_l_vial) .none kV_18 dc_18 pm_18 an_18 cd_18 ct_18), sl_18⟩)
    (c_18 : PySem.W.codeIn K cd_18 "_law_vial" = true)
    (k_18 : PySem.W.keepIn K (.ref f_18) = true)
    (l_19 : K.lookup f_19 = some ⟨oc_19, od_19, .func (PySem.W.fnOf "_law_nip" "_law_nip" (defArgs s_l_nip) (defBody s_l_nip) (defScope s_l_nip) .none kV_19 dc_19 pm_19 an_19 cd_19 ct_19), sl_19⟩)
    (c_19 : PySem.W.codeIn K cd_19 "_law_nip" = true)
    (k_19 : PySem.W.keepIn K (.ref f_19) = true)
    (l_20 : K.lookup f_20 = some ⟨oc_20, od_20, .func (PySem.W.fnOf "_law_opt" "_law_opt" (defArgs s_l_opt) (defBody s_l_opt) (defScope s_l_opt) .none kV_20 dc_20 pm_20 an_20 cd_20 ct_20), sl_20⟩)
    (c_20 : PySem.W.codeIn K cd_20 "_law_opt" = true)
    (k_20 : PySem.W.keepIn K (.ref f_20) = true)
    (l_21 : K.lookup f_21 = some ⟨oc_21, od_21, .func (PySem.W.fnOf "_law_pair" "_law_pair" (defArgs s_l_pair) (defBody s_l_pair) (defScope s_l_pair) .none kV_21 dc_21 pm_21 an_21 cd_21 ct_21), sl_21⟩)
    (c_21 : PySem.W.codeIn K cd_21 "_law_pair" = true)
    (k_21 : PySem.W.keepIn K (.ref f_21) = true)
    (l_22 : K.lookup f_22 = some ⟨oc_22, od_22, .func (PySem.W.fnOf "_law_then" "_law_then" (defArgs s_l_then) (defBody s_l_then) (defScope s_l_then) .none kV_22 dc_22 pm_22 an_22 cd_22 ct_22), sl_22⟩)
    (c_22 : PySem.W.codeIn K cd_22 "_law_then" = true)
    (k_22 : PySem.W.keepIn K (.ref f_22) = true)
    (l_23 : K.lookup f_23 = some ⟨oc_23, od_23, .func (PySem.W.fnOf "_law_undone" "_law_undone" (defArgs s_l_undone) (defBody s_l_undone) (defScope s_l_undone) .none kV_23 dc_23 pm_23 an_23 cd_23 ct_23), sl_23⟩)
    (c_23 : PySem.W.codeIn K cd_23 "_law_undone" = true)
    (k_23 : PySem.W.keepIn K (.ref f_23) = true)
    (l_24 : K.lookup f_24 = some ⟨oc_24, od_24, .func (PySem.W.fnOf "_law_kept" "_law_kept" (defArgs s_l_kept) (defBody s_l_kept) (defScope s_l_kept) .none kV_24 dc_24 pm_24 an_24 cd_24 ct_24), sl_24⟩)
    (c_24 : PySem.W.codeIn K cd_24 "_law_kept" = true)
    (k_24 : PySem.W.keepIn K (.ref f_24) = true)
    (l_25 : K.lookup f_25 = some ⟨oc_25, od_25, .func (PySem.W.fnOf "_law_put" "_law_put" (defArgs s_l_put) (defBody s_l_put) (defScope s_l_put) .none kV_25 dc_25 pm_25 an_25 cd_25 ct_25), sl_25⟩)
    (c_25 : PySem.W.codeIn K cd_25 "_law_put" = true)
    (k_25 : PySem.W.keepIn K (.ref f_25) = true)
    (l_26 : K.lookup f_26 = some ⟨oc_26, od_26, .func (PySem.W.fnOf "_law_is_like" "_law_is_like" (defArgs s_l_is_like) (defBody s_l_is_like) (defScope s_l_is_like) .none kV_26 dc_26 pm_26 an_26 cd_26 ct_26), sl_26⟩)
    (c_26 : PySem.W.codeIn K cd_26 "_law_is_like" = true)
    (k_26 : PySem.W.keepIn K (.ref f_26) = true)
    (l_27 : K.lookup f_27 = some ⟨oc_27, od_27, .func (PySem.W.fnOf "_law_often" "_law_often" (defArgs s_l_often) (defBody s_l_often) (defScope s_l_often) .none kV_27 dc_27 pm_27 an_27 cd_27 ct_27), sl_27⟩)
    (c_27 : PySem.W.codeIn K cd_27 "_law_often" = true)
    (k_27 : PySem.W.keepIn K (.ref f_27) = true)
    (l_28 : K.lookup f_28 = some ⟨oc_28, od_28, .func (PySem.W.fnOf "_law_has_root" "_law_has_root" (defArgs s_l_has_root) (defBody s_l_has_root) (defScope s_l_has_root) .none kV_28 dc_28 pm_28 an_28 cd_28 ct_28), sl_28⟩)
    (c_28 : PySem.W.codeIn K cd_28 "_law_has_root" = true)
    (k_28 : PySem.W.keepIn K (.ref f_28) = true)
    (l_29 : K.lookup f_29 = some ⟨oc_29, od_29, .func (PySem.W.fnOf "_law_pair_right" "_law_pair_right" (defArgs s_l_pair_right) (defBody s_l_pair_right) (defScope s_l_pair_right) .none kV_29 dc_29 pm_29 an_29 cd_29 ct_29), sl_29⟩)
    (c_29 : PySem.W.codeIn K cd_29 "_law_pair_right" = true)
    (k_29 : PySem.W.keepIn K (.ref f_29) = true)
    (l_30 : K.lookup f_30 = some ⟨oc_30, od_30, .func (PySem.W.fnOf "_law_root_right" "_law_root_right" (defArgs s_l_root_right) (defBody s_l_root_right) (defScope s_l_root_right) .none kV_30 dc_30 pm_30 an_30 cd_30 ct_30), sl_30⟩)
    (c_30 : PySem.W.codeIn K cd_30 "_law_root_right" = true)
    (k_30 : PySem.W.keepIn K (.ref f_30) = true)
    (l_31 : K.lookup f_31 = some ⟨oc_31, od_31, .func (PySem.W.fnOf "_law_right" "_law_right" (defArgs s_l_right) (defBody s_l_right) (defScope s_l_right) .none kV_31 dc_31 pm_31 an_31 cd_31 ct_31), sl_31⟩)
    (c_31 : PySem.W.codeIn K cd_31 "_law_right" = true)
    (k_31 : PySem.W.keepIn K (.ref f_31) = true)
    (l_32 : K.lookup f_32 = some ⟨oc_32, od_32, .func (PySem.W.fnOf "law" "law" (defArgs s_law) (defBody s_law) (defScope s_law) .none kV_32 dc_32 pm_32 an_32 cd_32 ct_32), sl_32⟩)
    (c_32 : PySem.W.codeIn K cd_32 "law" = true)
    (k_32 : PySem.W.keepIn K (.ref f_32) = true)
    (z_abs : PySem.W.nsIn K mainGlobals "abs" = some none)
    (z_all : PySem.W.nsIn K mainGlobals "all" = some none)
    (z_bool : PySem.W.nsIn K mainGlobals "bool" = some none)
    (z_divmod : PySem.W.nsIn K mainGlobals "divmod" = some none)
    (z_int : PySem.W.nsIn K mainGlobals "int" = some none)
    (z_isinstance : PySem.W.nsIn K mainGlobals "isinstance" = some none)
    (z_len : PySem.W.nsIn K mainGlobals "len" = some none)
    (z_max : PySem.W.nsIn K mainGlobals "max" = some none)
    (z_range : PySem.W.nsIn K mainGlobals "range" = some none)
    (z_repr : PySem.W.nsIn K mainGlobals "repr" = some none)
    (z_str : PySem.W.nsIn K mainGlobals "str" = some none)
    : ∃ fd : FuncData, (∀ (s : Shared) (v : Value), BindsTo s fd ⟨[v], []⟩ [("_law_script", v)]) ∧
      ∀ base : Heap, K.In base → base.Ns mainGlobals mg → FnG P w K mg base 12 fa fd ["_law_script"] (spLaw K) := by
  have e := hfa.symm.trans (PySem.W.mg_of X G a_32)
  cases e
  have F_1 := fun_mk (st := s_is_integer) l_1 c_1 k_1
  have F_2 := fun_mk (st := s_Slide_init) l_2 c_2 k_2
  have F_3 := fun_mk (st := s_Slide_side) l_3 c_3 k_3
  have F_4 := fun_mk (st := s_Slide_shift) l_4 c_4 k_4
  have F_5 := fun_mk (st := s_Slide_str) l_5 c_5 k_5
  have F_6 := fun_mk (st := s_Slide_eq) l_6 c_6 k_6
  have F_7 := fun_mk (st := s_still_slide) l_7 c_7 k_7
  have F_8 := fun_mk (st := s_check_slide) l_8 c_8 k_8
  have F_9 := fun_mk (st := s_check_slides) l_9 c_9 k_9
  have F_10 := fun_mk (st := s_put_slides) l_10 c_10 k_10
  have F_11 := fun_mk (st := s_many_slides) l_11 c_11 k_11
  have F_12 := fun_mk (st := s_slide_link) l_12 c_12 k_12
  have F_13 := fun_mk (st := s_slide_often) l_13 c_13 k_13
  have F_14 := fun_mk (st := s_is_slide_alike) l_14 c_14 k_14
  have F_15 := fun_mk (st := s_slide_alike) l_15 c_15 k_15
  have F_16 := fun_mk (st := s_do_slides_commute) l_16 c_16 k_16
  have F_17 := fun_mk (st := s_slide_root) l_17 c_17 k_17
  have F_18 := fun_mk (st := s_l_vial) l_18 c_18 k_18
  have F_19 := fun_mk (st := s_l_nip) l_19 c_19 k_19
  have F_20 := fun_mk (st := s_l_opt) l_20 c_20 k_20
  have F_21 := fun_mk (st := s_l_pair) l_21 c_21 k_21
  have F_22 := fun_mk (st := s_l_then) l_22 c_22 k_22
  have F_23 := fun_mk (st := s_l_undone) l_23 c_23 k_23
  have F_24 := fun_mk (st := s_l_kept) l_24 c_24 k_24
  have F_25 := fun_mk (st := s_l_put) l_25 c_25 k_25
  have F_26 := fun_mk (st := s_l_is_like) l_26 c_26 k_26
  have F_27 := fun_mk (st := s_l_often) l_27 c_27 k_27
  have F_28 := fun_mk (st := s_l_has_root) l_28 c_28 k_28
  have F_29 := fun_mk (st := s_l_pair_right) l_29 c_29 k_29
  have F_30 := fun_mk (st := s_l_root_right) l_30 c_30 k_30
  have F_31 := fun_mk (st := s_l_right) l_31 c_31 k_31
  have F_32 := fun_mk (st := s_law) l_32 c_32 k_32
  have T : Txt K mg { f_is_integer := f_1, d_is_integer := _, f_Slide_init := f_2, d_Slide_init := _, f_Slide_side := f_3, d_Slide_side := _, f_Slide_shift := f_4, d_Slide_shift := _, f_Slide_str := f_5, d_Slide_str := _, f_Slide_eq := f_6, d_Slide_eq := _, f_still_slide := f_7, d_still_slide := _, f_check_slide := f_8, d_check_slide := _, f_check_slides := f_9, d_check_slides := _, f_put_slides := f_10, d_put_slides := _, f_many_slides := f_11, d_many_slides := _, f_slide_link := f_12, d_slide_link := _, f_slide_often := f_13, d_slide_often := _, f_is_slide_alike := f_14, d_is_slide_alike := _, f_slide_alike := f_15, d_slide_alike := _, f_do_slides_commute := f_16, d_do_slides_commute := _, f_slide_root := f_17, d_slide_root := _, f_l_vial := f_18, d_l_vial := _, f_l_nip := f_19, d_l_nip := _, f_l_opt := f_20, d_l_opt := _, f_l_pair := f_21, d_l_pair := _, f_l_then := f_22, d_l_then := _, f_l_undone := f_23, d_l_undone := _, f_l_kept := f_24, d_l_kept := _, f_l_put := f_25, d_l_put := _, f_l_is_like := f_26, d_l_is_like := _, f_l_often := f_27, d_l_often := _, f_l_has_root := f_28, d_l_has_root := _, f_l_pair_right := f_29, d_l_pair_right := _, f_l_root_right := f_30, d_l_root_right := _, f_l_right := f_31, d_l_right := _, f_law := fa, d_law := _, C_Slide := C_Slide, p_Slide_side := p_Slide_side, p_Slide_shift := p_Slide_shift } :=
    { F_is_integer := (F_1)
      b_is_integer := (F_1.binds fun _ _ _ _ _ _ us hl => match us, hl with | [_], _ => rfl)
      g_is_integer := (PySem.W.mg_of X G a_1)
      F_Slide_init := (F_2)
      b_Slide_init := (F_2.binds fun _ _ _ _ _ _ us hl => match us, hl with | [_, _, _], _ => rfl)
      F_Slide_side := (F_3)
      b_Slide_side := (F_3.binds fun _ _ _ _ _ _ us hl => match us, hl with | [_], _ => rfl)
      F_Slide_shift := (F_4)
      b_Slide_shift := (F_4.binds fun _ _ _ _ _ _ us hl => match us, hl with | [_], _ => rfl)
      F_Slide_str := (F_5)
      b_Slide_str := (F_5.binds fun _ _ _ _ _ _ us hl => match us, hl with | [_], _ => rfl)
      F_Slide_eq := (F_6)
      b_Slide_eq := (F_6.binds fun _ _ _ _ _ _ us hl => match us, hl with | [_, _], _ => rfl)
      F_still_slide := (F_7)
      b_still_slide := (F_7.binds fun _ _ _ _ _ _ us hl => match us, hl with | [], _ => rfl)
      g_still_slide := (PySem.W.mg_of X G a_7)
      F_check_slide := (F_8)
      b_check_slide := (F_8.binds fun _ _ _ _ _ _ us hl => match us, hl with | [_], _ => rfl)
      g_check_slide := (PySem.W.mg_of X G a_8)
      F_check_slides := (F_9)
      b_check_slides := (F_9.binds fun _ _ _ _ _ _ us hl => match us, hl with | [_, _], _ => rfl)
      g_check_slides := (PySem.W.mg_of X G a_9)
      F_put_slides := (F_10)
      b_put_slides := (F_10.binds fun _ _ _ _ _ _ us hl => match us, hl with | [_, _], _ => rfl)
      g_put_slides := (PySem.W.mg_of X G a_10)
      F_many_slides := (F_11)
      b_many_slides := (F_11.binds fun _ _ _ _ _ _ us hl => match us, hl with | [_, _], _ => rfl)
      g_many_slides := (PySem.W.mg_of X G a_11)
      F_slide_link := (F_12)
      b_slide_link := (F_12.binds fun _ _ _ _ _ _ us hl => match us, hl with | [_, _], _ => rfl)
      g_slide_link := (PySem.W.mg_of X G a_12)
      F_slide_often := (F_13)
      b_slide_often := (F_13.binds fun _ _ _ _ _ _ us hl => match us, hl with | [_, _], _ => rfl)
      g_slide_often := (PySem.W.mg_of X G a_13)
      F_is_slide_alike := (F_14)
      b_is_slide_alike := (F_14.binds fun _ _ _ _ _ _ us hl => match us, hl with | [_, _], _ => rfl)
      g_is_slide_alike := (PySem.W.mg_of X G a_14)
      F_slide_alike := (F_15)
      b_slide_alike := (F_15.binds fun _ _ _ _ _ _ us hl => match us, hl with | [_, _], _ => rfl)
      g_slide_alike := (PySem.W.mg_of X G a_15)
      F_do_slides_commute := (F_16)
      b_do_slides_commute := (F_16.binds fun _ _ _ _ _ _ us hl => match us, hl with | [_, _], _ => rfl)
      g_do_slides_commute := (PySem.W.mg_of X G a_16)
      F_slide_root := (F_17)
      b_slide_root := (F_17.binds fun _ _ _ _ _ _ us hl => match us, hl with | [_, _], _ => rfl)
      g_slide_root := (PySem.W.mg_of X G a_17)
      F_l_vial := (F_18)
      b_l_vial := (F_18.binds fun _ _ _ _ _ _ us hl => match us, hl with | [_, _], _ => rfl)
      g_l_vial := (PySem.W.mg_of X G a_18)
      F_l_nip := (F_19)
      b_l_nip := (F_19.binds fun _ _ _ _ _ _ us hl => match us, hl with | [_, _], _ => rfl)
      g_l_nip := (PySem.W.mg_of X G a_19)
      F_l_opt := (F_20)
      b_l_opt := (F_20.binds fun _ _ _ _ _ _ us hl => match us, hl with | [_, _], _ => rfl)
      g_l_opt := (PySem.W.mg_of X G a_20)
      F_l_pair := (F_21)
      b_l_pair := (F_21.binds fun _ _ _ _ _ _ us hl => match us, hl with | [_], _ => rfl)
      g_l_pair := (PySem.W.mg_of X G a_21)
      F_l_then := (F_22)
      b_l_then := (F_22.binds fun _ _ _ _ _ _ us hl => match us, hl with | [_, _], _ => rfl)
      g_l_then := (PySem.W.mg_of X G a_22)
      F_l_undone := (F_23)
      b_l_undone := (F_23.binds fun _ _ _ _ _ _ us hl => match us, hl with | [_], _ => rfl)
      g_l_undone := (PySem.W.mg_of X G a_23)
      F_l_kept := (F_24)
      b_l_kept := (F_24.binds fun _ _ _ _ _ _ us hl => match us, hl with | [_], _ => rfl)
      g_l_kept := (PySem.W.mg_of X G a_24)
      F_l_put := (F_25)
      b_l_put := (F_25.binds fun _ _ _ _ _ _ us hl => match us, hl with | [_, _], _ => rfl)
      g_l_put := (PySem.W.mg_of X G a_25)
      F_l_is_like := (F_26)
      b_l_is_like := (F_26.binds fun _ _ _ _ _ _ us hl => match us, hl with | [_, _], _ => rfl)
      g_l_is_like := (PySem.W.mg_of X G a_26)
      F_l_often := (F_27)
      b_l_often := (F_27.binds fun _ _ _ _ _ _ us hl => match us, hl with | [_, _], _ => rfl)
      g_l_often := (PySem.W.mg_of X G a_27)
      F_l_has_root := (F_28)
      b_l_has_root := (F_28.binds fun _ _ _ _ _ _ us hl => match us, hl with | [_, _], _ => rfl)
      g_l_has_root := (PySem.W.mg_of X G a_28)
      F_l_pair_right := (F_29)
      b_l_pair_right := (F_29.binds fun _ _ _ _ _ _ us hl => match us, hl with | [_, _], _ => rfl)
      g_l_pair_right := (PySem.W.mg_of X G a_29)
      F_l_root_right := (F_30)
      b_l_root_right := (F_30.binds fun _ _ _ _ _ _ us hl => match us, hl with | [_, _], _ => rfl)
      g_l_root_right := (PySem.W.mg_of X G a_30)
      F_l_right := (F_31)
      b_l_right := (F_31.binds fun _ _ _ _ _ _ us hl => match us, hl with | [_], _ => rfl)
      g_l_right := (PySem.W.mg_of X G a_31)
      F_law := (F_32)
      b_law := (F_32.binds fun _ _ _ _ _ _ us hl => match us, hl with | [_], _ => rfl)
      g_law := (PySem.W.mg_of X G a_32)
      k_is_slide_alike := (kb_rev F_14 (by decide) fun _ _ _ _ _ _ ws hl => match ws, hl with | [_, _], _ => rfl)
      k_slide_alike := (kb_rev F_15 (by decide) fun _ _ _ _ _ _ ws hl => match ws, hl with | [_, _], _ => rfl)
      k_do_slides_commute := (kb_rev F_16 (by decide) fun _ _ _ _ _ _ ws hl => match ws, hl with | [_, _], _ => rfl)
      k_slide_root := (kb_rev F_17 (by decide) fun _ _ _ _ _ _ ws hl => match ws, hl with | [_, _], _ => rfl)
      g_Slide := (PySem.W.mg_of X G q_Slide)
      o_Slide := (⟨⟨pg_Slide, hd_Slide, po_Slide, sa_Slide⟩, ha_Slide, hn_Slide, ht_Slide, hm_Slide⟩)
      m_Slide := (⟨mk_Slide, in_Slide, if_Slide, kc_Slide⟩)
      n_Slide_own_side := (nf_Slide_own_side)
      n_Slide_own_shift := (nf_Slide_own_shift)
      p_Slide_side := (⟨pa_Slide_side, pg_Slide_side, pt_Slide_side, _, pr_Slide_side⟩)
      p_Slide_shift := (⟨pa_Slide_shift, pg_Slide_shift, pt_Slide_shift, _, pr_Slide_shift⟩)
      s_Slide := (st_Slide)
      sf_Slide := (sf_Slide)
      e_Slide := (⟨eq_Slide, ef_Slide, ne_Slide, hm_Slide⟩)
      z_abs := (PySem.W.mg_none_of X G z_abs)
      z_all := (PySem.W.mg_none_of X G z_all)
      z_bool := (PySem.W.mg_none_of X G z_bool)
      z_divmod := (PySem.W.mg_none_of X G z_divmod)
      z_int := (PySem.W.mg_none_of X G z_int)
      z_isinstance := (PySem.W.mg_none_of X G z_isinstance)
      z_len := (PySem.W.mg_none_of X G z_len)
      z_max := (PySem.W.mg_none_of X G z_max)
      z_range := (PySem.W.mg_none_of X G z_range)
      z_repr := (PySem.W.mg_none_of X G z_repr)
      z_str := (PySem.W.mg_none_of X G z_str) }
  exact ⟨_, fun s v => .of_eq rfl, fun base _ _ => ok_law T⟩
end K33
open PySem PySem.W PyProof.Rows
set_option maxRecDepth 100000 in
set_option maxHeartbeats 0 in
theorem PySem.Challenge.cw_pressworlds_k33_whole_slides_alike_roots_holds : PySem.Challenge.rw_pressworlds_k33_whole_slides_alike_roots.Holds := by
  w_on; o_law; k_head; (case hw => w_witness2)
  k_fill
  refine Own.walkG (l := PySem.Challenge.rw_pressworlds_k33_whole_slides_alike_roots) (n := 63) (k := 12) (x := "_law_script") (sp := K33.spLaw) rfl (by decide) rfl ⟨rfl, by decide, by decide⟩ (fun w h Y => PySem.W.kIn_of Y) ?F (fun K H a ns hl _ hS => ⟨_, rfl, a, ns, rfl, hS, hl, fun _ => rfl⟩)
  case F =>
    intro w mg fa h KX G hmg
    refine' K33.all_mk KX G hmg ?a_1 ?a_7 ?a_8 ?a_9 ?a_10 ?a_11 ?a_12 ?a_13 ?a_14 ?a_15 ?a_16 ?a_17 ?a_18 ?a_19 ?a_20 ?a_21 ?a_22 ?a_23 ?a_24 ?a_25 ?a_26 ?a_27 ?a_28 ?a_29 ?a_30 ?a_31 ?a_32 ?q_Slide ?pa_Slide_side ?pg_Slide_side ?pt_Slide_side ?pr_Slide_side ?pa_Slide_shift ?pg_Slide_shift ?pt_Slide_shift ?pr_Slide_shift ?in_Slide ?if_Slide ?mk_Slide ?kc_Slide ?pg_Slide ?hd_Slide ?po_Slide ?sa_Slide ?ha_Slide ?hn_Slide ?ht_Slide ?hm_Slide ?nf_Slide_own_side ?nf_Slide_own_shift ?st_Slide ?sf_Slide ?eq_Slide ?ef_Slide ?ne_Slide ?l_1 ?c_1 ?k_1 ?l_2 ?c_2 ?k_2 ?l_3 ?c_3 ?k_3 ?l_4 ?c_4 ?k_4 ?l_5 ?c_5 ?k_5 ?l_6 ?c_6 ?k_6 ?l_7 ?c_7 ?k_7 ?l_8 ?c_8 ?k_8 ?l_9 ?c_9 ?k_9 ?l_10 ?c_10 ?k_10 ?l_11 ?c_11 ?k_11 ?l_12 ?c_12 ?k_12 ?l_13 ?c_13 ?k_13 ?l_14 ?c_14 ?k_14 ?l_15 ?c_15 ?k_15 ?l_16 ?c_16 ?k_16 ?l_17 ?c_17 ?k_17 ?l_18 ?c_18 ?k_18 ?l_19 ?c_19 ?k_19 ?l_20 ?c_20 ?k_20 ?l_21 ?c_21 ?k_21 ?l_22 ?c_22 ?k_22 ?l_23 ?c_23 ?k_23 ?l_24 ?c_24 ?k_24 ?l_25 ?c_25 ?k_25 ?l_26 ?c_26 ?k_26 ?l_27 ?c_27 ?k_27 ?l_28 ?c_28 ?k_28 ?l_29 ?c_29 ?k_29 ?l_30 ?c_30 ?k_30 ?l_31 ?c_31 ?k_31 ?l_32 ?c_32 ?k_32 ?z_abs ?z_all ?z_bool ?z_divmod ?z_int ?z_isinstance ?z_len ?z_max ?z_range ?z_repr ?z_str
    (case a_1 => k_is)
    (case a_7 => k_is)
    (case a_8 => k_is)
    (case a_9 => k_is)
    (case a_10 => k_is)
    (case a_11 => k_is)
    (case a_12 => k_is)
    (case a_13 => k_is)
    (case a_14 => k_is)
    (case a_15 => k_is)
    (case a_16 => k_is)
    (case a_17 => k_is)
    (case a_18 => k_is)
    (case a_19 => k_is)
    (case a_20 => k_is)
    (case a_21 => k_is)
    (case a_22 => k_is)
    (case a_23 => k_is)
    (case a_24 => k_is)
    (case a_25 => k_is)
    (case a_26 => k_is)
    (case a_27 => k_is)
    (case a_28 => k_is)
    (case a_29 => k_is)
    (case a_30 => k_is)
    (case a_31 => k_is)
    (case a_32 => k_is)
    (case q_Slide => k_is)
    (case pa_Slide_side => k_is)
    (case pg_Slide_side => k_is)
    (case pt_Slide_side => k_is)
    (case pr_Slide_side => k_is)
    (case pa_Slide_shift => k_is)
    (case pg_Slide_shift => k_is)
    (case pt_Slide_shift => k_is)
    (case pr_Slide_shift => k_is)
    (case in_Slide => k_is)
    (case if_Slide => k_is)
    (case mk_Slide => k_is)
    (case kc_Slide => k_is)
    (case pg_Slide => k_is)
    (case hd_Slide => k_is)
    (case po_Slide => k_is)
    (case sa_Slide => k_is)
    (case ha_Slide => k_is)
    (case hn_Slide => k_is)
    (case ht_Slide => k_is)
    (case hm_Slide => k_is)
    (case nf_Slide_own_side => k_is)
    (case nf_Slide_own_shift => k_is)
    (case st_Slide => k_is)
    (case sf_Slide => k_is)
    (case eq_Slide => k_is)
    (case ef_Slide => k_is)
    (case ne_Slide => k_is)
    (case l_1 => k_is)
    (case c_1 => k_is)
    (case k_1 => k_is)
    (case l_2 => k_is)
    (case c_2 => k_is)
    (case k_2 => k_is)
    (case l_3 => k_is)
    (case c_3 => k_is)
    (case k_3 => k_is)
    (case l_4 => k_is)
    (case c_4 => k_is)
    (case k_4 => k_is)
    (case l_5 => k_is)
    (case c_5 => k_is)
    (case k_5 => k_is)
    (case l_6 => k_is)
    (case c_6 => k_is)
    (case k_6 => k_is)
    (case l_7 => k_is)
    (case c_7 => k_is)
    (case k_7 => k_is)
    (case l_8 => k_is)
    (case c_8 => k_is)
    (case k_8 => k_is)
    (case l_9 => k_is)
    (case c_9 => k_is)
    (case k_9 => k_is)
    (case l_10 => k_is)
    (case c_10 => k_is)
    (case k_10 => k_is)
    (case l_11 => k_is)
    (case c_11 => k_is)
    (case k_11 => k_is)
    (case l_12 => k_is)
    (case c_12 => k_is)
    (case k_12 => k_is)
    (case l_13 => k_is)
    (case c_13 => k_is)
    (case k_13 => k_is)
    (case l_14 => k_is)
    (case c_14 => k_is)
    (case k_14 => k_is)
    (case l_15 => k_is)
    (case c_15 => k_is)
    (case k_15 => k_is)
    (case l_16 => k_is)
    (case c_16 => k_is)
    (case k_16 => k_is)
    (case l_17 => k_is)
    (case c_17 => k_is)
    (case k_17 => k_is)
    (case l_18 => k_is)
    (case c_18 => k_is)
    (case k_18 => k_is)
    (case l_19 => k_is)
    (case c_19 => k_is)
    (case k_19 => k_is)
    (case l_20 => k_is)
    (case c_20 => k_is)
    (case k_20 => k_is)
    (case l_21 => k_is)
    (case c_21 => k_is)
    (case k_21 => k_is)
    (case l_22 => k_is)
    (case c_22 => k_is)
    (case k_22 => k_is)
    (case l_23 => k_is)
    (case c_23 => k_is)
    (case k_23 => k_is)
    (case l_24 => k_is)
    (case c_24 => k_is)
    (case k_24 => k_is)
    (case l_25 => k_is)
    (case c_25 => k_is)
    (case k_25 => k_is)
    (case l_26 => k_is)
    (case c_26 => k_is)
    (case k_26 => k_is)
    (case l_27 => k_is)
    (case c_27 => k_is)
    (case k_27 => k_is)
    (case l_28 => k_is)
    (case c_28 => k_is)
    (case k_28 => k_is)
    (case l_29 => k_is)
    (case c_29 => k_is)
    (case k_29 => k_is)
    (case l_30 => k_is)
    (case c_30 => k_is)
    (case k_30 => k_is)
    (case l_31 => k_is)
    (case c_31 => k_is)
    (case k_31 => k_is)
    (case l_32 => k_is)
    (case c_32 => k_is)
    (case k_32 => k_is)
    (case z_abs => k_is)
    (case z_all => k_is)
    (case z_bool => k_is)
    (case z_divmod => k_is)
    (case z_int => k_is)
    (case z_isinstance => k_is)
    (case z_len => k_is)
    (case z_max => k_is)
    (case z_range => k_is)
    (case z_repr => k_is)
    (case z_str => k_is)

