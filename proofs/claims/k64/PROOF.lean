import PyProof.Rows.All
import Wide.All
import OpenK.AllK
import Wide.FinOn
import HandS.ForMost
import HandS.ForExc
import HandS.WideBits
import HandS.Wide
import HandS.IsInst
import HandS.Property
import HandS.FStr
import HandS.OwnEq
import HandS.MakeKw
import HandS.MakeKwOnly
import HandS.Defaults
import HandS.Flow
import HandS.Codes
import HandS.RaiseMore
import HandS.Deep
import HandS.NoneIn
import HandS.TupAny
import HandS.TupMul
import HandS.Style
import PySem.Challenge.RW_pressworlds_k64_whole_moves_alike_commut
set_option Elab.async false
set_option linter.all false
set_option maxRecDepth 100000
set_option maxHeartbeats 4000000
/-! Own rules over the hand layer: repr of data, str and == of own instances, calls by keywords alone -/
namespace Own
open PySem PySem.Spec PyProof.Rows L2

/-! ### repr of data at any depth -/
def rRepr (K : PySem.W.Frag) : List V → Hp → VK → Prop := fun xs H Q =>
  ∃ x d, xs = [x] ∧ Dp K H x d ∧ d.showable = true ∧ d.hasDict = false ∧ d.depth ≤ 60 ∧
    d.shown.length ≤ sizeLine ∧ (∃ a, x = .ref a) ∧ Q (.str d.shown) H
theorem call_reprD {X : Cx} (hg : X.A.guards = some []) (hu : X.A.units + 64 < cLine) :
    CallR X (.builtin "repr") (rRepr X.K) := by
  intro pins s σ H xs us Q I r h
  obtain ⟨x, d, rfl, hd, hs, hn, hp, hl, ⟨a, rfl⟩, q⟩ := h
  obtain ⟨u, rfl, r1⟩ := vals1 r
  have e : u = Value.ref a := r1
  subst e
  obtain ⟨as, rd⟩ := Dp.reads I d _ _ hd r1
  exact repr_of_reads' rd hs (PyData.noDict_hsm hn) hg (by omega) (fun _ _ e => e)
    (fun h' u tk hk => ⟨.str _, H, I.kept hk, ⟨_, rfl⟩, q⟩) hl

/-! ### str(o), o an own instance with its own text -/
section
variable {X : Cx} {CX : CXT} {n : Nat} {C g : Addr} {fd : FuncData} {ps : List Str} {sp : Sp} {E : XK}
def rStrOwn (C : Addr) (sp : Sp) (E : XK) : List V → Hp → VK → Prop := fun xs H Q =>
  ∃ a dx fs, xs = [.ref a] ∧ H a = some (.ins C dx fs) ∧ sp [.ref a] H (fun v H' => (∃ z, v = .str z) ∧ Q v H') E
theorem in1_sub {k : Nat} (hr : Room (k + 2) X.A) : Room k X.A.in1.in1 := hr.in1.in1
theorem own_run {A : Around} {pins : List (Addr × Obj)} {σ : L2.St} {H : Hp} {s : Shared} {Q : VK} {us : List Value} {vs : List V}
    (F : FnOk X.prog X.w X.K X.mg X.base CX n g fd ps sp) (hr : Room n A) (hf : A.frames = X.A.frames) (hb : Binds X.K fd ps [])
    (hx : Passes CX X E) (I : Inv X pins σ H s) (r : Vals vs us) (h : sp vs H Q E) :
    wpAny (model X.prog X.w) A (call (.ref g) us) (EP X pins σ Q) X.xe s := by
  have e0 : Env0 X.prog X.w X.K X.mg X.base A X.stack s H := by
    have e := I.env0
    exact ⟨by rw [hf]; exact e.frames, e.mod, e.bs, e.bsz, e.funs, e.frf, e.hok, e.bare⟩
  have hl : us.length = ps.length := by rw [← r.length]; exact F.len _ _ _ _ h
  have hbb := hb s us I.kIn (by simpa using hl)
  rw [List.append_nil] at hbb
  refine wpAny_call (codeAny_mono (F.run A X.stack s H ⟨us, []⟩ us vs Q E hr e0 hbb r h) fun r s' hq => ?_)
  rcases r with e | fl
  · exact hx pins σ H s e s' I hq
  · cases fl <;> first | exact I.after hq | exact False.elim hq
theorem call_strOwn (hs : PySem.W.findIn X.K (.ref C) "__str__" = some (some (.ref g))) (hf : PySem.W.isFn X.K (.ref g) = true)
    (F : FnOk X.prog X.w X.K X.mg X.base CX n g fd ps sp) (hr : Room (n + 2) X.A) (hb : Binds X.K fd ps []) (hx : Passes CX X E) :
    CallR X (.type "str") (rStrOwn C sp E) := by
  intro pins s σ H xs us Q I r h
  obtain ⟨a, dx, fs, rfl, ea, q⟩ := h
  obtain ⟨u, rfl, r1⟩ := vals1 r
  have e : u = Value.ref a := r1
  subst e
  obtain ⟨mA, O, _⟩ := ins_get I.hok ea
  obtain ⟨od, J, _⟩ := O.look
  refine PySem.W.kso_call (f := g) (by have := hr.un; show X.A.units + 1 + 1 < _; omega) I.kIn J hs hf ?_
  refine wpAny_mono (own_run (X := X) F hr.in1.in1 rfl hb hx I r q) (fun v s' hv => ?_) fun _ _ z => z
  obtain ⟨v1, H', I', rv, ⟨z, rfl⟩, q'⟩ := hv
  obtain ⟨t, rfl⟩ := rv
  exact ⟨.str z, H', I', ⟨t, rfl⟩, q'⟩
end

/-! ### f(k = v, ..): keywords alone -/
section
variable {X : Cx} {CX : CXT} {k : Nat} {f : Addr} {fd : FuncData} {ps ks : List Str} {sp : Sp} {E : XK} {x : Str} {p pos : Pos} {kws : List Keyword}
  {tk : TA} {g : List Value → List Value → List Value} {gV : List V → List V → List V}
theorem pe_callK0 (F : FnOk X.prog X.w X.K X.mg X.base CX k f fd ps sp) (hr : Room k X.A) (hg : Gl X x) (hm : X.mg x = some (.ref f))
    (hk : PySem.W.keepIn X.K (.ref f) = true) (hb : KBinds X.K fd ps ks g gV) (hx : Passes CX X E) (hkw : PK X kws tk)
    (hall : (backToKw pos (keywordEach kws X.env)).all (·.1.isSome) = true := by rfl)
    (hks : (backToKw pos (keywordEach kws X.env)).filterMap (·.1) = ks := by rfl)
    (hdb : (x == ("__debug__" : Str)) = false := by decide)
    (hpl : ((backTo pos (starEach [] X.env)).any (·.1) || (backToKw pos (keywordEach kws X.env)).any (·.1.isNone)) = false := by rfl) :
    PE X (.Call (.Name x p) [] kws pos) (tCallK sp gV E tNil tk) := by
  refine ⟨fun pins s σ H Q I h => ?_⟩
  refine wpAny_Call_Name_kw (ld_glob I hg hm ?_ hdb)
  refine PySem.W.callWith_KW0 (h₀ := X.base) I.ok.mod.kin hk hall ?_ hpl
  refine thn (hkw.run pos pins s σ H _ I h) fun ws s2 ⟨zs, H2, I2, rz, q2⟩ => ⟨I2.kIn, ?_⟩
  rw [hks]
  exact run_fnk (us := []) F hr hb hx I2 .nil rz q2
end

/-! ### == and != of an own instance, by the own == -/
section
variable {X : Cx} {CX : CXT} {n : Nat} {C g : Addr} {fd : FuncData} {ps : List Str} {sp : Sp} {E : XK}
/-- what is to be known of the right one: its class does not come first -/
def Rgt (K : PySem.W.Frag) (H : Hp) (C : Addr) (y : V) : Prop := ∃ t, TyX K H y t ∧ PySem.W.notFirst K C t = true
def rEqOwn (K : PySem.W.Frag) (C : Addr) (sp : Sp) (E : XK) : R2 := fun x y H Q =>
  ∃ a dx fs, x = .ref a ∧ H a = some (.ins C dx fs) ∧ Rgt K H C y ∧ sp [.ref a, y] H (fun v H' => ∃ b, v = .bl b ∧ Q (.bl b) H') E
def rNeOwn (K : PySem.W.Frag) (C : Addr) (sp : Sp) (E : XK) : R2 := fun x y H Q =>
  ∃ a dx fs, x = .ref a ∧ H a = some (.ins C dx fs) ∧ Rgt K H C y ∧ sp [.ref a, y] H (fun v H' => ∃ b, v = .bl b ∧ Q (.bl (!b)) H') E
/-- what the written part says of the class: its own ==, and that != is the plain one -/
structure EqC (K : PySem.W.Frag) (C g : Addr) : Prop where
  eq : PySem.W.findIn K (.ref C) "__eq__" = some (some (.ref g))
  fn : PySem.W.isFn K (.ref g) = true
  ne : PySem.W.findIn K (.ref C) "__ne__" = some (some (.builtin "object.__ne__"))
  ob : PySem.W.mroIn K C (.type "object") = some true
theorem op_eqOwn (c : EqC X.K C g) (F : FnOk X.prog X.w X.K X.mg X.base CX n g fd ps sp) (hr : Room n X.A) (hb : Binds X.K fd ps []) (hx : Passes CX X E) :
    OpR X (compareOp .Eq) (rEqOwn X.K C sp E) := by
  intro pins s σ H x y v u Q I rx ry h
  obtain ⟨a, dx, fs, rfl, ea, ⟨t, ty, nf⟩, q⟩ := h
  have e : v = Value.ref a := rx
  subst e
  obtain ⟨mA, O, _⟩ := ins_get I.hok ea
  obtain ⟨od, J, _⟩ := O.look
  obtain ⟨m, hF⟩ := I.fr
  obtain ⟨P, Z, p, _⟩ := kit_of I ry ty
  refine PySem.W.cmp_K (op := .Eq) (tb := t) hr.units0 hF I.ok.mod.kin J (Z.ty _ _ I.kIn p) nf c.eq c.fn ?_
  refine wpAny_mono (own_run (X := X) F hr rfl hb hx I (.cons rx (.cons ry .nil)) q) (fun v s' hv => ?_) fun _ _ z => z
  obtain ⟨v1, H', I', rv, b, rfl, q'⟩ := hv
  have e : v = Value.bool b := rv
  subst e
  exact ⟨.bl b, H', I', rfl, q'⟩
/-- a special name that is a built-in slot -/
theorem ifBound_slot {M : Model} {A : Around} {E : Value → Shared → Prop} {s : Shared} {K : PySem.W.Frag} {x C : Addr} {ox : Obj} {od : Option Obj} {name : Str} {id : String} {args : List Value} {Q : Option Value → Shared → Prop}
    (X : K.In s.heap) (I : PySem.W.InstAt s.heap x ox C od) (hs : PySem.W.findIn K (.ref C) name = some (some (.builtin id)))
    (hb : ∀ self, bindSpecial (.builtin id) self = pure (.builtin id, [self]))
    (h : wpAny M A (call (.builtin id) (.ref x :: args)) (fun v => Q (some v)) E s) : wpAny M A (callSpecialIfBound? (.ref x) name args) Q E s := by
  simp only [callSpecialIfBound?, bindSpecialIfBound?]
  refine wpAny_holding (wpAny_bind (wpAny_bind (wpAny_bind (I.type.here ((PySem.W.looks_findIn X hs).here ?_)))))
  simp only [hb]
  refine wpAny_bind (wpAny_askSetting (wpAny_ite ?_))
  have fin : wpAny M A (call (.builtin id) ([.ref x] ++ args) >>= fun v => pure (some v)) Q E s :=
    wpAny_bind (wpAny_mono h (fun v s' h' => wpAny_pure h') fun _ _ h' => h')
  split
  · exact wpAny_bind (wpAny_pure (wpAny_pure fin))
  · exact wpAny_tryCatch (wpAny_bind (wpAny_pure (wpAny_pure fin)))
theorem bind_objNe (self : Value) : bindSpecial (.builtin "object.__ne__") self = pure (.builtin "object.__ne__", [self]) := PySem.F.slot_object_ne.bind self
theorem op_neOwn (c : EqC X.K C g) (F : FnOk X.prog X.w X.K X.mg X.base CX n g fd ps sp) (hr : Room (n + 1) X.A) (hb : Binds X.K fd ps []) (hx : Passes CX X E) :
    OpR X (compareOp .NotEq) (rNeOwn X.K C sp E) := by
  intro pins s σ H x y v u Q I rx ry h
  obtain ⟨a, dx, fs, rfl, ea, ⟨t, ty, nf⟩, q⟩ := h
  have e : v = Value.ref a := rx
  subst e
  obtain ⟨mA, O, _⟩ := ins_get I.hok ea
  obtain ⟨od, J, _⟩ := O.look
  obtain ⟨P, Z, p, _⟩ := kit_of I ry ty
  have KX := I.kIn
  have one : wpAny (model X.prog X.w) X.A (tryCompare (.ref a) (cmpInfo .NotEq).2.1 u) (fun r s' => ∃ v, r = some v ∧ EP X pins σ Q v s') X.xe s := by
    unfold tryCompare
    refine wpAny_bind (ifBound_slot KX J c.ne bind_objNe ?_)
    refine wpAny_call (codeAny_call_builtin PySem.F.slot_object_ne.plain PySem.F.cmpEntry_ne (PySem.W.check_slot (i := "object.__ne__") (owner := "object") (n := "__ne__") (by decide +kernel) (by decide +kernel) (J.type.andThen (PySem.W.looks_mroIn KX c.ob)) (PySem.F.cmpArgs_ne _ _) ?_))
    unfold Builtin.«object.__ne__»
    refine wpAny_bind (m := slotArgs "__ne__" 1 _) (wpAny_pure ?_)
    refine wpAny_bind (m := cRoomFor _ _) (wpAny_cRoomFor (by have := hr.un; show X.A.units + 1 < _; omega) ?_)
    refine wpAny_bind (m := callSpecialIfBound? (.ref a) (Str.ofString "__eq__") _) (PySem.W.ifBound_K KX J c.eq c.fn ?_)
    refine wpAny_mono (own_run (X := X) (A := X.A.in1) F hr.in1 rfl hb hx I (.cons rx (.cons ry .nil)) q) (fun v s' hv => ?_) fun _ _ z => z
    obtain ⟨v1, H', I', rv, b, rfl, q'⟩ := hv
    have e : v = Value.bool b := rv
    subst e
    refine wpAny_bind (m := truthy (.bool b)) (wpAny_truthy_bool ?_)
    refine wpAny_pure ?_
    exact wpAny_pure ⟨_, rfl, .bl (!b), H', I', rfl, q'⟩
  show wpAny _ _ (richCompare .NotEq (.ref a) u) _ _ _
  unfold richCompare
  simp only [oneThing_ref]
  refine wpAny_holding (wpAny_bind (wpAny_cRoomFor hr.units0 ?_))
  refine wpAny_bind (J.type.here (wpAny_bind ((Z.ty _ _ I.kIn p).here ?_)))
  split
  · rename_i q0
    have e : PySem.W.subIn X.K t (.ref C) = some false := by
      rcases Bool.or_eq_true_iff.mp nf with e | e
      · rw [beq_iff_eq.mp e] at q0; simp at q0
      · exact beq_iff_eq.mp e
    refine wpAny_bind ((PySem.W.looks_subIn KX e).here ?_)
    simp only [Bool.false_eq_true, if_false]
    refine wpAny_bind (wpAny_mono one (fun r s' z => ?_) fun _ _ e => e)
    obtain ⟨v, rfl, hq⟩ := z
    exact wpAny_pure hq
  · refine wpAny_bind (wpAny_pure ?_)
    simp only [Bool.false_eq_true, if_false]
    refine wpAny_bind (wpAny_mono one (fun r s' z => ?_) fun _ _ e => e)
    obtain ⟨v, rfl, hq⟩ := z
    exact wpAny_pure hq
end
end Own

/-! Defs that may call repr: promises that hold where no repr is under way -/
namespace Own
open PySem PySem.Spec PyProof.Rows L2

structure FnG (P : Program) (w : World) (K : PySem.W.Frag) (mg : Str → Option Value) (base : Heap) (k : Nat) (f : Addr) (fd : FuncData) (ps : List Str) (sp : Sp) : Prop where
  len : ∀ vs H Q E, sp vs H Q E → vs.length = ps.length
  go : ∀ (A : Around) (outer : List Env) (s : Shared) (H : Hp) (args : Args) (us : List Value) (vs : List V) (Q : VK) (E : XK),
    A.guards = some [] → Room k A → Env0 P w K mg base A outer s H → BindsTo s fd args (ps.zip us) → Vals vs us → sp vs H Q E →
    codeAny (model P w) A (.call (.ref f) args) (CR CX0 outer P w H s Q E) s
theorem FnG.of {P : Program} {w : World} {K : PySem.W.Frag} {mg : Str → Option Value} {base : Heap} {k : Nat} {f : Addr} {fd : FuncData} {ps : List Str} {sp : Sp}
    (F : FnOk P w K mg base CX0 k f fd ps sp) : FnG P w K mg base k f fd ps sp :=
  ⟨F.len, fun A outer s H args us vs Q E _ => F.run A outer s H args us vs Q E⟩

section
variable {P : Program} {w : World} {K : PySem.W.Frag} {mg : Str → Option Value} {base : Heap} {x qual : Str} {st : Stmt} {f : Addr} {fd : FuncData} {N ps : List Str} {k : Nat} {sp : Sp}
theorem okG (F : Fun K x qual st f fd) (S : FnScope N ps (defScope st)) (len : ∀ vs H Q E, sp vs H Q E → vs.length = ps.length)
    (hbody : ∀ (cdv : Value) (A : Around) (outer : List Env) (s : Shared) (H : Hp) (vs : List V) (Q : VK) (E : XK),
      A.guards = some [] → Room k (A.deeper (envOfC qual (defScope st) s.heap.objs.size f cdv)) → sp vs H Q E →
      ∃ t, PSs (cxOf CX0 P w K mg base N qual (defScope st) f cdv A outer s H E).nox (defBody st) t ∧
        t { nx := fun _ H' => Q .non H', rt := Q } (start N vs) H) : FnG P w K mg base (k + 1) f fd ps sp := by
  obtain ⟨oc, od, kV, doc, pm, an, cdv, ct, osl, rfl, lk, hcd⟩ := F.ex
  constructor
  · exact len
  intro A outer s H args us vs Q E hg hr e0 hb r hsp
  have keep : ∀ b o, base.get? b = some o → s.heap.get? b = some o := fun b o e => (e0.bs b o e).1
  have hin : K.In s.heap := e0.mod.kin.keeps keep
  have hkind : ∀ y ∈ ps.zip us, (defScope st).names.lookup y.1 = some .local ∨
      ((defScope st).names.lookup y.1 = some .cell ∧ ((cellsFrom (s.heap.objs.size + 1) (defScope st).names []).lookup y.1).isSome = true) := by
    rintro ⟨n, v⟩ hy
    exact (S.par n (List.of_mem_zip hy).1).imp id fun q => ⟨q, PySem.W.cellsFrom_some _ _ _ (.inl q)⟩
  refine codeAny_call_function hr.depth (hin _ _ lk) rfl S.co S.gen rfl (PySem.W.codeRec_of hin hcd) (hb _ _ _ _ ?_)
  refine wpAny_newFunctionEnv_cells S.kind hkind fun env he s1 z => ?_
  subst he
  refine ⟨(e0.mod.nolimit.keeps keep).keeps z.toInCall.keep, codeAny_func ?_⟩
  obtain ⟨t, ht, hq⟩ := hbody cdv A outer s H vs Q E hg (hr.deeper _) hsp
  have J := inv_start (CX := CX0) (E := E) S hr.hd e0 (len _ _ _ _ hsp) r z
  refine wpAny_mono (ht.nox.run [] s1 (start N vs) H _ J hq) (fun fl s' hs => ?_) fun e s' hs => hs
  cases fl with
  | ret u =>
    obtain ⟨v, σ', H', J', rv, q⟩ := hs
    exact ⟨v, H', J'.os, J'.bare, J'.base, J'.hok, rv, q⟩
  | next =>
    obtain ⟨σ', H', J', q⟩ := hs
    exact ⟨.non, H', J'.os, J'.bare, J'.base, J'.hok, rfl, q⟩
  | brk => exact (hs.choose_spec.choose_spec.2 : False).elim
  | cont => exact (hs.choose_spec.choose_spec.2 : False).elim
end

section
variable {X : Cx} {k : Nat} {f : Addr} {fd : FuncData} {ps : List Str} {sp : Sp} {x : Str} {p pos : Pos} {e : Expr} {es : List Expr} {t : TA}
theorem goG {pins : List (Addr × Obj)} {σ : L2.St} {H : Hp} {s : Shared} {Q : VK} {us : List Value} {vs : List V}
    (F : FnG X.prog X.w X.K X.mg X.base k f fd ps sp) (hg : X.A.guards = some []) (hr : Room k X.A) (hb : Binds X.K fd ps [])
    (I : Inv X pins σ H s) (r : Vals vs us) (h : sp vs H Q E0) : wpAny (model X.prog X.w) X.A (call (.ref f) us) (EP X pins σ Q) X.xe s := by
  have hl : us.length = ps.length := by rw [← r.length]; exact F.len _ _ _ _ h
  have bb := hb s us I.kIn (by simpa using hl)
  rw [List.append_nil] at bb
  refine wpAny_call (codeAny_mono (F.go X.A X.stack s H ⟨us, []⟩ us vs Q E0 hg hr I.env0 bb r h) fun r s' hq => ?_)
  rcases r with e | fl
  · exact (hq : False).elim
  · cases fl <;> first | exact I.after hq | exact (hq : False).elim
def tCallG (sp : Sp) (t : TA) : TE := fun σ H Q => t σ H fun vs H1 => sp vs H1 Q E0
theorem pe_callG (F : FnG X.prog X.w X.K X.mg X.base k f fd ps sp) (hgd : X.A.guards = some []) (hr : Room k X.A) (hg : Gl X x) (hm : X.mg x = some (.ref f))
    (hk : PySem.W.keepIn X.K (.ref f) = true) (hb : Binds X.K fd ps []) (ha : PA X (e :: es) t)
    (hdb : (x == ("__debug__" : Str)) = false := by decide) (he : starEach (e :: es) X.env = (false, eval e X.env) :: starEach es X.env := by rfl)
    (hpl : (backTo pos (starEach es X.env)).any (·.1) = false := by rfl) :
    PE X (.Call (.Name x p) (e :: es) [] pos) (tCallG sp t) := by
  constructor
  intro pins s σ H Q I h
  refine wpAny_Call_Name_kw (ld_glob I hg hm ?_ hdb)
  exact PySem.W.callWith_K (h₀ := X.base) I.ok.mod.kin hk (thn (ha.run pos pins s σ H _ I h) fun us s1 ⟨vs, H1, I1, r, q⟩ => ⟨I1.kIn, goG F hgd hr hb I1 r q⟩) he hpl
end

/-! ### the law's own call, where no repr is under way -/
theorem nothing_in {b : Addr} : ¬ b ∈ ([] : List Addr) := by simp
theorem lawG0 {P : Program} {w : World} {K : PySem.W.Frag} {mg mb : Str → Option Value} {k : Nat} {fa a : Addr} {fd : FuncData} {x : Str} {sp : Sp} {s₁ : Shared} {vs : List Value} {ns : List Int} {H : Hp}
    (KX : K.In s₁.heap) (hns : s₁.heap.Ns mainGlobals mg) (hb : s₁.heap.Ns builtinsNs mb) (hbb : ∀ x : Str, x ≠ "__name__" → mb x = bootBuiltins x)
    (hlim : s₁.heap.NoLimit) (hg : s₁.gens = #[]) (ha : s₁.heap.get? a = some { cls := .type "list", data := .seq vs.toArray }) (hr : Room k callerA)
    (F : ∀ base : Heap, K.In base → base.Ns mainGlobals mg → FnG P w K mg base k fa fd [x] sp) (hbind : ∀ (s : Shared) (u : Value), BindsTo s fd ⟨[u], []⟩ [(x, u)])
    (hO : Only H) (hok : HOk P w H s₁.heap) (hA : ∀ b, H b ≠ none → b = a) (hK : H a ≠ none → K.lookup a = none)
    (hsp : sp [.ref a] H (fun v _ => v = .bl true) E0) :
    codeAny (model P w) callerA (.call (.ref fa) ⟨[.ref a], []⟩)
      (fun r s' => r = .ok (.ret (.bool true)) ∧ OldK s₁.heap s'.heap ∧ s'.os = s₁.os ∧ AllBare s'.gens) s₁ := by
  have out : ∀ {b : Addr}, b ≠ a → H b = none := fun {b} h => by
    cases q : H b with
    | none => rfl
    | some u => exact absurd (hA b (by rw [q]; simp)) h
  have nsK : ∀ {b : Addr} {m : Str → Option Value}, s₁.heap.Ns b m → (hidT s₁.heap H).Ns b m := by
    rintro b m ⟨o, es, ep, e, d, r⟩
    refine ⟨o, es, ep, hidT_get e (out ?_), d, r⟩
    rintro rfl
    rw [ha] at e
    cases e
    cases d
  have hKb : K.In (hidT s₁.heap H) := by
    intro b o e
    refine hidT_get (KX b o e) ?_
    cases q : H b with
    | none => rfl
    | some u =>
      have z := hA b (by rw [q]; simp)
      subst z
      rw [hK (by rw [q]; simp)] at e
      cases e
  obtain ⟨mc, l1, l2⟩ := hlim
  have e0 : Env0 P w K mg (hidT s₁.heap H) callerA [] s₁ H :=
    ⟨rfl, ⟨hKb, nsK hns, ⟨mb, nsK hb, hbb⟩, ⟨mc, nsK l1, l2⟩⟩, fun b o e => of_hidT e, Nat.le_of_eq (hidT_size _ _), trivial, fun b z => (nothing_in z).elim, hok, .of_eq hg⟩
  have run := (F _ hKb (nsK hns)).go callerA [] s₁ H ⟨[.ref a], []⟩ [.ref a] [.ref a] _ _ rfl hr e0 (hbind s₁ (.ref a)) (.cons rfl .nil) hsp
  refine codeAny_mono run fun r s' h => ?_
  rcases r with e | fl
  · exact (h : False).elim
  cases fl with
  | next => exact (h : False).elim
  | brk => exact (h : False).elim
  | cont => exact (h : False).elim
  | ret u =>
    obtain ⟨v, H', os, bare, un, hok', r', q⟩ := h
    have q' : v = .bl true := q
    subst q'
    have e : u = Value.bool true := r'
    subst e
    refine ⟨rfl, OldK.of_keep ?_, os, bare⟩
    intro b o e
    rcases hO b with z | ⟨ob, xs, z⟩
    · exact un.keep b o e z (fun y => nothing_in y) nothing_in
    · have e2 := (hok' b _ (un.frzs b ob _ z)).1
      have e1 := (hok b _ z).1
      rw [e] at e1
      cases e1
      exact e2
theorem lawG {P : Program} {w : World} {K : PySem.W.Frag} {mg mb : Str → Option Value} {k : Nat} {fa a : Addr} {fd : FuncData} {x : Str} {sp : Sp} {s₁ : Shared} {vs : List Value} {ns : List Int}
    (KX : K.In s₁.heap) (hns : s₁.heap.Ns mainGlobals mg) (hb : s₁.heap.Ns builtinsNs mb) (hbb : ∀ x : Str, x ≠ "__name__" → mb x = bootBuiltins x)
    (hlim : s₁.heap.NoLimit) (hg : s₁.gens = #[]) (ha : s₁.heap.get? a = some { cls := .type "list", data := .seq vs.toArray }) (hi : IntsAre vs ns)
    (hl : ns.length ≤ sizeLine) (hr : Room k callerA)
    (F : ∀ base : Heap, K.In base → base.Ns mainGlobals mg → FnG P w K mg base k fa fd [x] sp) (hbind : ∀ (s : Shared) (u : Value), BindsTo s fd ⟨[u], []⟩ [(x, u)])
    (hsp : ∀ H : Hp, Only H → SqL K H a (ns.map V.int) → sp [.ref a] H (fun v _ => v = .bl true) E0) :
    codeAny (model P w) callerA (.call (.ref fa) ⟨[.ref a], []⟩)
      (fun r s' => r = .ok (.ret (.bool true)) ∧ OldK s₁.heap s'.heap ∧ s'.os = s₁.os ∧ AllBare s'.gens) s₁ := by
  have rv := vals_ints hi
  cases hk : K.lookup a with
  | some o =>
    have e := KX a o hk
    rw [ha] at e
    cases e
    have only : Only (fun _ => none) := fun _ => .inl rfl
    refine lawG0 (H := fun _ => none) (ns := ns) KX hns hb hbb hlim hg ha hr F hbind only (fun b u z => nomatch (z : (none : Option HO) = some u)) (fun b z => absurd rfl z) (fun z => absurd rfl z) (hsp _ only ?_)
    exact .inr ⟨_, vs.toArray, _, hk, rfl, rfl, rfl, by rw [List.size_toArray, hi.length]; exact hl, by simpa using rv⟩
  | none =>
    let H1 : Hp := fun b => if b = a then some (.frz { cls := .type "list", data := .seq vs.toArray } (.lst (ns.map V.int))) else none
    have at1 : H1 a = some (.frz { cls := .type "list", data := .seq vs.toArray } (.lst (ns.map V.int))) := if_pos rfl
    have off : ∀ b, b ≠ a → H1 b = none := fun b h => if_neg h
    have only : Only H1 := by
      intro b
      by_cases h : b = a
      · subst h; exact .inr ⟨_, _, at1⟩
      · exact .inl (off b h)
    refine lawG0 (H := H1) (ns := ns) KX hns hb hbb hlim hg ha hr F hbind only ?_ (fun b z => ?_) (fun _ => hk) (hsp H1 only (.inl (.inr ⟨_, at1⟩)))
    · intro b u z
      by_cases h : b = a
      · subst h
        rw [at1] at z
        cases z
        exact ⟨ha, by rw [List.length_map]; exact hl, vs, _, rv, ha⟩
      · rw [off b h] at z
        cases z
    · by_cases h : b = a
      · exact h
      · exact absurd (off b h) z
theorem walkG {l : PySem.W.OpenLaw} {n k : Nat} {q : Program} {loose : List Str} {XP : (Str → Option Value) → Heap → Prop} {YP : World → Heap → Prop} {d : DefRec} {K : Params → PySem.W.Frag} {sp : PySem.W.Frag → Sp} {x : Str}
    (hn : l.most = some n) (hn2 : n ≤ sizeLine) (hdf : d.params.defaults = []) (hr : Room k callerA)
    (hY : ∀ (w : World) (h : Heap), YP w h → (K w.params).In h)
    (F : ∀ (w : World) (mg : Str → Option Value) (fa : Addr) (h : Heap), (K w.params).In h → h.Ns mainGlobals mg → mg d.name = some (.ref fa) →
      ∃ fd : FuncData, (∀ (s : Shared) (u : Value), BindsTo s fd ⟨[u], []⟩ [(x, u)]) ∧
        ∀ base : Heap, (K w.params).In base → base.Ns mainGlobals mg → FnG l.prog w (K w.params) mg base k fa fd [x] (sp (K w.params)))
    (hsp : ∀ (K : PySem.W.Frag) (H : Hp) (a : Addr) (ns : List Int), ns.length ≤ n → Only H → SqL K H a (ns.map V.int) → sp K [.ref a] H (fun v _ => v = .bl true) E0) :
    PySem.W.WalkO q loose XP YP l.row.toRowW d [] (fun f vs => PySem.call f vs) := by
  refine Att.attach_call hn hdf fun w s₀ s₁ mg mb fa o pm cd doc a vs ns G Y ho hd hcd hmg hobj hints hlen hg => ?_
  obtain ⟨fd, hb, hF⟩ := F w mg fa _ (hY w _ Y) G.T.g hmg
  exact lawG (hY w _ Y) G.T.g G.T.b G.T.builtins G.T.nolimit hg hobj hints (Nat.le_trans hlen hn2) hr hF hb fun H hO hS => hsp _ H a ns hlen hO hS
end Own

/-! What stands still while the heap grows: M is the part that is told of, H the whole -/
namespace Own
open PySem PySem.Spec PyProof.Rows L2

structure Gr (M H M' H' : Hp) : Prop where
  ex : Same M M'
  inn : Same M' H'
  out : ∀ b o, M b = none → H b = some o → M' b = none ∧ H' b = some o
section
variable {M H M1 H1 M2 H2 : Hp} {p x dx : Addr} {o : HO} {K : PySem.W.Frag}
theorem Gr.refl (h : Same M H) : Gr M H M H := ⟨Same.refl M, h, fun _ _ a b => ⟨a, b⟩⟩
theorem Gr.trans (g1 : Gr M H M1 H1) (g2 : Gr M1 H1 M2 H2) : Gr M H M2 H2 :=
  ⟨g1.ex.trans g2.ex, g2.inn, fun b o a c => let z := g1.out b o a c; g2.out b o z.1 z.2⟩
theorem same_new (h : H p = none) : Same H (upd H p o) := fun b u e => by
  rw [upd_ne (ne_of_none e h)]
  exact e
theorem Same.off (h : Same M H) (hp : H p = none) : M p = none := h.free hp
theorem gr_new (h : Same M H) (hp : H p = none) : Gr M H (upd M p o) (upd H p o) := by
  refine ⟨same_new (h.free hp), ?_, ?_⟩
  · intro b u e
    by_cases hb : b = p
    · subst hb
      rw [upd_same] at e ⊢
      exact e
    · rw [upd_ne hb] at e ⊢
      exact h b u e
  · intro b u e1 e2
    have hb : b ≠ p := ne_of_none e2 hp
    rw [upd_ne hb, upd_ne hb]
    exact ⟨e1, e2⟩
theorem gr_ins {C : Addr} {fs : List (Str × V)} (h : Same M H) (hx : H x = none) (hd : H dx = none) (ne : dx ≠ x) :
    Gr M H (upd (upd M dx (.own x)) x (.ins C dx fs)) (upd (upd H dx (.own x)) x (.ins C dx fs)) := by
  have g1 : Gr M H (upd M dx (.own x)) (upd H dx (.own x)) := gr_new h hd
  exact g1.trans (gr_new g1.inn (by rw [upd_ne ne.symm]; exact hx))
theorem Gr.same (h : Same M H) (g : Gr M H M1 H1) : Same H H1 := fun b o e => by
  cases q : M b with
  | none => exact (g.out b o q e).2
  | some u =>
    have z := h b u q
    rw [e] at z
    cases z
    exact g.inn b o (g.ex b o q)
theorem Gr.one {n : Nat} {v : Addr} (g : Gr M H M1 H1) (hv : M v = none) (ho : H v = some o) : H1 v = some o ∧ M1 v = none :=
  let z := g.out v o hv ho
  ⟨z.2, z.1⟩
theorem same_t {a : Addr} {xs : List V} (e : Same M M1) (h : SqT K M a xs) : SqT K M1 a xs := by
  rcases h with (h | ⟨o, h⟩) | h
  · exact .inl (.inl (e _ _ h))
  · exact .inl (.inr ⟨o, e _ _ h⟩)
  · exact .inr h
end
mutual
theorem dp_mono {K : PySem.W.Frag} {M M1 : Hp} (e : Same M M1) : ∀ {v : V} {d : PyData}, Dp K M v d → Dp K M1 v d
  | _, _, .non => .non
  | _, _, .bl b => .bl b
  | _, _, .int i => .int i
  | _, _, .str x => .str x
  | _, _, .lst h a => .lst (e.seq h) (dps_mono e a)
  | _, _, .tup h a => .tup (same_t e h) (dps_mono e a)
theorem dps_mono {K : PySem.W.Frag} {M M1 : Hp} (e : Same M M1) : ∀ {vs : List V} {ds : List PyData}, DpAll K M vs ds → DpAll K M1 vs ds
  | _, _, .nil => .nil
  | _, _, .cons h a => .cons (dp_mono e h) (dps_mono e a)
end
/-! ### promises by the number of arguments -/
def sp0 (f : Hp → VK → Prop) : Sp := fun vs H Q _ => vs = [] ∧ f H Q
def sp1 (f : V → Hp → VK → Prop) : Sp := fun vs H Q _ => ∃ x, vs = [x] ∧ f x H Q
def sp2 (f : V → V → Hp → VK → Prop) : Sp := fun vs H Q _ => ∃ x y, vs = [x, y] ∧ f x y H Q
def sp3 (f : V → V → V → Hp → VK → Prop) : Sp := fun vs H Q _ => ∃ x y z, vs = [x, y, z] ∧ f x y z H Q
theorem len0 {f : Hp → VK → Prop} {ps : List Str} (hp : ps.length = 0) : ∀ vs H Q E, sp0 f vs H Q E → vs.length = ps.length := fun _ _ _ _ h => by
  obtain ⟨rfl, _⟩ := h
  exact hp.symm
theorem len1 {f : V → Hp → VK → Prop} {ps : List Str} (hp : ps.length = 1) : ∀ vs H Q E, sp1 f vs H Q E → vs.length = ps.length := fun _ _ _ _ h => by
  obtain ⟨x, rfl, _⟩ := h
  exact hp.symm
theorem len2 {f : V → V → Hp → VK → Prop} {ps : List Str} (hp : ps.length = 2) : ∀ vs H Q E, sp2 f vs H Q E → vs.length = ps.length := fun _ _ _ _ h => by
  obtain ⟨x, y, rfl, _⟩ := h
  exact hp.symm
theorem len3 {f : V → V → V → Hp → VK → Prop} {ps : List Str} (hp : ps.length = 3) : ∀ vs H Q E, sp3 f vs H Q E → vs.length = ps.length := fun _ _ _ _ h => by
  obtain ⟨x, y, z, rfl, _⟩ := h
  exact hp.symm
/-! ### the drawer: a list of three ints that is written, beside what stands still -/
structure Vl (v : Addr) (n : Nat) (M H : Hp) : Prop where
  inn : Same M H
  off : M v = none
  at_ : ∃ a b c : Int, H v = some (.lst [.int a, .int b, .int c]) ∧ 0 ≤ a ∧ 0 ≤ c ∧ c ≤ n
section
variable {v : Addr} {n m : Nat} {M H M1 H1 : Hp}
theorem Vl.grow (w : Vl v n M H) (g : Gr M H M1 H1) : Vl v n M1 H1 := by
  obtain ⟨a, b, c, h, r⟩ := w.at_
  have z := g.out v _ w.off h
  exact ⟨g.inn, z.1, a, b, c, z.2, r⟩
theorem Vl.mono (w : Vl v n M H) (h : n ≤ m) : Vl v m M H := by
  obtain ⟨a, b, c, e, h0, h1, h2⟩ := w.at_
  exact ⟨w.inn, w.off, a, b, c, e, h0, h1, by omega⟩
end
/-! ### keyword calls in the opposite order, and in the order -/
def gRev {α : Type} (us ws : List α) : List α := match us with
  | [] => ws.reverse
  | _ => []
def gFwd {α : Type} (us ws : List α) : List α := match us with
  | [] => ws
  | _ => []
theorem vals_rev : ∀ {zs : List V} {ws : List Value}, Vals zs ws → Vals zs.reverse ws.reverse
  | _, _, .nil => .nil
  | _, _, .cons h t => by
    rw [List.reverse_cons, List.reverse_cons]
    exact (vals_rev t).append (.cons h .nil)
theorem kb_rev {K : PySem.W.Frag} {x qual : Str} {st : Stmt} {f : Addr} {fd : FuncData} {ps ks : List Str} (F : Fun K x qual st f fd) (h0 : ps ≠ [])
    (h : ∀ (kV doc pm : Value) (an : Option Addr) (cdv ct : Value) (ws : List Value), ws.length = ps.length →
      bindArgs (PySem.W.fnOf x qual (defArgs st) (defBody st) (defScope st) .none kV doc pm an cdv ct) ⟨[], ks.zip ws⟩ = pure (ps.zip ws.reverse)) :
    KBinds K fd ps ks gRev gRev := by
  obtain ⟨oc, od, kV, doc, pm, an, cdv, ct, osl, rfl, lk, hcd⟩ := F.ex
  constructor
  · intro s us ws _ hl
    cases us with
    | nil => exact .of_eq (h kV doc pm an cdv ct ws (by simpa [gRev] using hl))
    | cons u us => exact absurd (List.length_eq_zero_iff.mp hl.symm) h0
  · intro vs us zs ws r rz
    cases r with
    | nil => exact vals_rev rz
    | cons _ _ => exact .nil
theorem kb_fwd {K : PySem.W.Frag} {x qual : Str} {st : Stmt} {f : Addr} {fd : FuncData} {ps ks : List Str} (F : Fun K x qual st f fd) (h0 : ps ≠ [])
    (h : ∀ (kV doc pm : Value) (an : Option Addr) (cdv ct : Value) (ws : List Value), ws.length = ps.length →
      bindArgs (PySem.W.fnOf x qual (defArgs st) (defBody st) (defScope st) .none kV doc pm an cdv ct) ⟨[], ks.zip ws⟩ = pure (ps.zip ws)) :
    KBinds K fd ps ks gFwd gFwd := by
  obtain ⟨oc, od, kV, doc, pm, an, cdv, ct, osl, rfl, lk, hcd⟩ := F.ex
  constructor
  · intro s us ws _ hl
    cases us with
    | nil => exact .of_eq (h kV doc pm an cdv ct ws (by simpa [gFwd] using hl))
    | cons u us => exact absurd (List.length_eq_zero_iff.mp hl.symm) h0
  · intro vs us zs ws r rz
    cases r with
    | nil => exact rz
    | cons _ _ => exact .nil
/-! ### sizes -/
theorem log_lt {i : Int} (h : i.natAbs < 10 ^ 300) : i.natAbs.log2 < 1920 := by
  by_cases h0 : i.natAbs = 0
  · rw [h0]; decide
  · rw [Nat.log2_lt h0]
    exact Nat.lt_trans h (by decide +kernel)
theorem kit_self {K : PySem.W.Frag} {t : Value} : PySem.W.kitOne K t t = some true := by
  unfold PySem.W.kitOne
  simp
theorem i_int {K : PySem.W.Frag} {H : Hp} (i : Int) : TyX K H (.int i) (.type "int") := .base (.int i)
end Own
namespace Own
open PySem PySem.Spec PyProof.Rows L2
/-- an own class as isinstance and == want it -/
structure OwnC (K : PySem.W.Frag) (C : Addr) : Prop where
  cl : Cls K C
  ha : PySem.W.findIn K (.ref C) "__class__" = some (some (.builtin "object.__class__"))
  hn : PySem.W.specialIn K (.builtin "object.__class__") "__get__" = some (some (.builtin "getset_descriptor.__get__"))
  ht : PySem.W.takesIn K (.builtin "object.__class__") = some true
  hm : PySem.W.mroIn K C (.type "object") = some true
theorem OwnC.ty {K : PySem.W.Frag} {C p dx : Addr} {H : Hp} {fs : List (Str × V)} (c : OwnC K C) (h : H p = some (.ins C dx fs)) : TyX K H (.ref p) (.ref C) :=
  .base (.ins h c.cl c.ha c.hn c.ht c.hm)
theorem nf_self {K : PySem.W.Frag} {C : Addr} : PySem.W.notFirst K C (.ref C) = true := by
  unfold PySem.W.notFirst
  simp
theorem OwnC.rgt {K : PySem.W.Frag} {C p dx : Addr} {H : Hp} {fs : List (Str × V)} (c : OwnC K C) (h : H p = some (.ins C dx fs)) : Rgt K H C (.ref p) :=
  ⟨_, c.ty h, nf_self⟩
end Own
namespace Own
open PySem PySem.Spec PyProof.Rows L2
/-! ### data that can be shown -/
mutual
def Oky : PyData → Prop
  | .none => True
  | .bool _ => True
  | .int i => i.natAbs < 10 ^ 300
  | .str x => ∀ c ∈ x.cps.toList, c < 16 ^ 8
  | .list xs => OkyAll xs
  | .tuple xs => OkyAll xs
  | .dict _ => False
def OkyAll : List PyData → Prop
  | [] => True
  | x :: xs => Oky x ∧ OkyAll xs
end
mutual
theorem Oky.all : ∀ {d : PyData}, Oky d → d.showable = true ∧ d.hasDict = false ∧ d.leavesShort 400 = true
  | .none, _ => ⟨rfl, rfl, rfl⟩
  | .bool _, _ => ⟨rfl, rfl, rfl⟩
  | .int i, h => by
    have h1 : i.natAbs < 10 ^ 300 := h
    have h2 := int_text_length_le10 (a := i) (k := 300) (by decide) h1
    refine ⟨?_, rfl, ?_⟩
    · simp only [PyData.showable, decide_eq_true_eq]
      exact log_lt h1
    · have e : (PyData.shown (.int i)).length ≤ 400 := by
        show (Str.ofString (toString i)).length ≤ 400
        rw [PySem.ofString_length]
        omega
      simpa only [PyData.leavesShort, decide_eq_true_eq] using e
  | .str x, h => by
    refine ⟨rfl, rfl, ?_⟩
    simp only [PyData.leavesShort, List.all_eq_true, decide_eq_true_eq]
    exact h
  | .list xs, h => by
    have z := OkyAll.all (xs := xs) h
    exact ⟨by simpa [PyData.showable] using z.1, by simpa [PyData.hasDict] using z.2.1, by simpa [PyData.leavesShort] using z.2.2⟩
  | .tuple xs, h => by
    have z := OkyAll.all (xs := xs) h
    exact ⟨by simpa [PyData.showable] using z.1, by simpa [PyData.hasDict] using z.2.1, by simpa [PyData.leavesShort] using z.2.2⟩
  | .dict _, h => h.elim
theorem OkyAll.all : ∀ {xs : List PyData}, OkyAll xs → PyData.showableAll xs = true ∧ PyData.hasDictAll xs = false ∧ PyData.leavesShortAll 400 xs = true
  | [], _ => ⟨rfl, rfl, rfl⟩
  | x :: xs, h => by
    have z := Oky.all (d := x) h.1
    have y := OkyAll.all (xs := xs) h.2
    exact ⟨by simp [PyData.showableAll, z.1, y.1], by simp [PyData.hasDictAll, z.2.1, y.2.1], by simp [PyData.leavesShortAll, z.2.2, y.2.2]⟩
end
mutual
def wt : PyData → Nat
  | .none => 0
  | .bool _ => 0
  | .int _ => 1000
  | .str x => x.cps.size
  | .list xs => wtAll xs
  | .tuple xs => wtAll xs
  | .dict _ => 0
def wtAll : List PyData → Nat
  | [] => 0
  | x :: xs => wt x + 1 + wtAll xs
end
mutual
theorem wt_le : ∀ {d : PyData}, Oky d → d.weight ≤ wt d
  | .none, _ => Nat.le_refl _
  | .bool _, _ => Nat.le_refl _
  | .int i, h => by
    have h1 : i.natAbs < 10 ^ 300 := h
    show (if i == 0 then 0 else i.natAbs.log2 + 1) ≤ 1000
    split
    · omega
    · rename_i z
      have h0 : i.natAbs ≠ 0 := by
        intro e
        have : i = 0 := Int.natAbs_eq_zero.mp e
        subst this
        exact z rfl
      have h2 : i.natAbs.log2 < 999 := by
        rw [Nat.log2_lt h0]
        exact Nat.lt_trans h1 (by decide +kernel)
      omega
  | .str x, _ => Nat.le_refl _
  | .list xs, h => by
    show PyData.weightAll xs ≤ wtAll xs
    exact wtAll_le (xs := xs) h
  | .tuple xs, h => by
    show PyData.weightAll xs ≤ wtAll xs
    exact wtAll_le (xs := xs) h
  | .dict _, h => h.elim
theorem wtAll_le : ∀ {xs : List PyData}, OkyAll xs → PyData.weightAll xs ≤ wtAll xs
  | [], _ => Nat.le_refl _
  | x :: xs, h => by
    have a := wt_le (d := x) h.1
    have b := wtAll_le (xs := xs) h.2
    show x.weight + 1 + PyData.weightAll xs ≤ wt x + 1 + wtAll xs
    omega
end
def rReprO (K : PySem.W.Frag) : List V → Hp → VK → Prop := fun xs H Q =>
  ∃ x d, xs = [x] ∧ Dp K H x d ∧ Oky d ∧ Nat.ble d.depth 60 = true ∧ Nat.ble (wt d) 30000 = true ∧ (∃ a, x = .ref a) ∧ Q (.str d.shown) H
theorem call_repr {X : Cx} (hg : X.A.guards = some []) (hu : X.A.units + 64 < cLine) : CallR X (.builtin "repr") (rReprO X.K) := by
  intro pins s σ H xs us Q I r h
  obtain ⟨x, d, e, hd, ho, h1, h2, hx, q⟩ := h
  have z := ho.all
  refine call_reprD hg hu pins s σ H xs us Q I r ⟨x, d, e, hd, z.1, z.2.1, Nat.le_of_ble_eq_true h1, ?_, hx, q⟩
  have w := PyData.shown_le 400 (by decide) d z.2.2
  have w2 := Nat.le_trans (wt_le ho) (Nat.le_of_ble_eq_true h2)
  have w3 : (400 + 2) * d.weight ≤ 402 * 30000 := Nat.mul_le_mul_left _ w2
  rw [sizeLine_eq]
  omega
end Own
namespace Own
open PySem PySem.Spec PyProof.Rows L2
/-! ### rules with the written part named (inside comprehensions) -/
section
variable {X : Cx} {K : PySem.W.Frag}
theorem kIxL (h : X.K = K := by rfl) : IxR X (rIxL K) := by
  subst h
  exact ix_list
theorem kIxT (h : X.K = K := by rfl) : IxR X (rIxT K) := by
  subst h
  exact ix_tup
theorem kIsi (h : X.K = K := by rfl) : CallR X (.builtin "isinstance") (rIsi K) := by
  subst h
  exact call_isi
theorem kLenSeq (h : X.K = K := by rfl) : CallR X (.builtin "len") (fun xs H Q => ∃ p ys, xs = [.ref p] ∧ (SqL K H p ys ∨ SqT K H p ys) ∧ Q (.int ys.length) H) := by
  subst h
  exact call_len_seq
end
end Own

/-! Texts of integers -/
namespace Own
open PySem PySem.Spec PyProof.Rows L2 TL
/-- the signs of an integer's text -/
def intL (i : Int) : List Nat := if i < 0 then 45 :: numL (0 - i).toNat else numL i.toNat
theorem tl_int (i : Int) : (Str.ofString (toString i)).cps.toList = intL i := by
  unfold intL
  split
  · rename_i h
    obtain ⟨n, hn⟩ := Int.eq_ofNat_of_zero_le (show 0 ≤ 0 - i by omega)
    rw [PyProof.Rows.toString_neg h, hn]
    have e : tl (Str.ofString (toString (n : Int))) = numL n := tl_num n
    rw [tl_ofString] at e
    have e2 : tl (Str.ofString ("-" ++ toString (n : Int))) = 45 :: numL n := by
      rw [tl_ofString, String.toList_append, List.map_append, e]
      rfl
    exact e2
  · rename_i h
    obtain ⟨n, hn⟩ := Int.eq_ofNat_of_zero_le (show 0 ≤ i by omega)
    rw [hn]
    exact tl_num n
theorem intL_inj {i j : Int} (h : intL i = intL j) : i = j := by
  have no : ∀ n m : Nat, (45 : Nat) :: numL n ≠ numL m := fun n m e => by
    have : 45 ∈ numL m := by rw [← e]; exact List.Mem.head _
    exact numL_free (.inl (by decide)) this
  unfold intL at h
  split at h
  · split at h
    · injection h with _ h
      have := numL_inj h
      omega
    · exact absurd h (no _ _)
  · split at h
    · exact absurd h.symm (no _ _)
    · have := numL_inj h
      omega
theorem toList_app (x y : Str) : (x ++ y).cps.toList = x.cps.toList ++ y.cps.toList := by
  show (x.cps ++ y.cps).toList = _
  simp
theorem u65 {k : Nat} {A : Around} (hr : Room k A) : A.units + 65 < cLine := by
  have := hr.un
  omega
end Own
namespace Own
open PySem PySem.Spec PyProof.Rows L2
/-! ### a list that a comprehension fills: D, beside what stands still -/
structure Build (M H : Hp) (D : Addr) (l : List V) (M' H' : Hp) : Prop where
  new : H D = none
  ex : Same M M'
  inn : Same M' H'
  off : M' D = none
  at_ : H' D = some (.lst l)
  out : ∀ b o, M b = none → H b = some o → M' b = none ∧ H' b = some o
section
variable {M H M' H' M1 H1 : Hp} {D : Addr} {l : List V}
theorem Build.start (hM : Same M H) (nD : H D = none) : Build M H D [] M (upd H D (.lst [])) := by
  refine ⟨nD, Same.refl M, ?_, hM.free nD, upd_same, ?_⟩
  · intro b o e
    exact same_new nD b o (hM b o e)
  · intro b o e1 e2
    exact ⟨e1, same_new nD b o e2⟩
theorem Build.grow (b : Build M H D l M' H') (g : Gr M' H' M1 H1) : Build M H D l M1 H1 := by
  have z := g.out D _ b.off b.at_
  refine ⟨b.new, b.ex.trans g.ex, g.inn, z.1, z.2, ?_⟩
  intro c o e1 e2
  have y := b.out c o e1 e2
  exact g.out c o y.1 y.2
theorem Build.push (b : Build M H D l M' H') (x : V) : Build M H D (l ++ [x]) M' (upd H' D (.lst (l ++ [x]))) := by
  refine ⟨b.new, b.ex, ?_, b.off, upd_same, ?_⟩
  · intro c o e
    rw [upd_ne (ne_of_none e b.off)]
    exact b.inn c o e
  · intro c o e1 e2
    have y := b.out c o e1 e2
    refine ⟨y.1, ?_⟩
    rw [upd_ne (ne_of_none e2 b.new)]
    exact y.2
theorem Build.done (b : Build M H D l M' H') : ∃ M2, Gr M H M2 H' ∧ M2 D = some (.lst l) ∧ Same M' M2 := by
  refine ⟨upd M' D (.lst l), ⟨b.ex.trans (same_new b.off), ?_, ?_⟩, upd_same, same_new b.off⟩
  · intro c o e
    by_cases h : c = D
    · subst h
      rw [upd_same] at e
      rw [← e]
      exact b.at_
    · rw [upd_ne h] at e
      exact b.inn c o e
  · intro c o e1 e2
    have y := b.out c o e1 e2
    refine ⟨?_, y.2⟩
    rw [upd_ne (ne_of_none e2 b.new)]
    exact y.1
end
end Own
namespace Own
open PySem PySem.Spec PyProof.Rows L2
/-! ### a list that a comprehension fills while things are drawn -/
structure BuildV (v : Addr) (n : Nat) (M : Hp) (D : Addr) (l : List V) (M' H' : Hp) : Prop where
  ex : Same M M'
  off : M D = none
  vl : Vl v n M' H'
  at_ : M' D = some (.lst l)
section
variable {v D : Addr} {n m : Nat} {M H M' H' M1 H1 : Hp} {l : List V}
theorem Vl.put (w : Vl v n M H) {o : HO} (hD : D ≠ v) : Vl v n (upd M D o) (upd H D o) := by
  obtain ⟨x, y, z, h, r⟩ := w.at_
  refine ⟨?_, ?_, x, y, z, ?_, r⟩
  · intro b u e
    by_cases hb : b = D
    · subst hb
      rw [upd_same] at e ⊢
      exact e
    · rw [upd_ne hb] at e ⊢
      exact w.inn b u e
  · rw [upd_ne hD.symm]
    exact w.off
  · rw [upd_ne hD.symm]
    exact h
theorem BuildV.start (w : Vl v n M H) (nD : H D = none) : BuildV v n M D [] (upd M D (.lst [])) (upd H D (.lst [])) := by
  have hD : D ≠ v := by
    obtain ⟨x, y, z, h, _⟩ := w.at_
    exact (ne_of_none h nD).symm
  exact ⟨same_new (w.inn.free nD), w.inn.free nD, w.put hD, upd_same⟩
theorem BuildV.draw (b : BuildV v n M D l M' H') (e : Same M' M1) (w : Vl v m M1 H1) : BuildV v m M D l M1 H1 :=
  ⟨b.ex.trans e, b.off, w, e _ _ b.at_⟩
theorem BuildV.push (b : BuildV v n M D l M' H') (y : V) : BuildV v n M D (l ++ [y]) (upd M' D (.lst (l ++ [y]))) (upd H' D (.lst (l ++ [y]))) := by
  have hD : D ≠ v := by
    intro e
    have := b.vl.off
    rw [← e, b.at_] at this
    cases this
  refine ⟨?_, b.off, b.vl.put hD, upd_same⟩
  intro c o e
  rw [upd_ne (ne_of_none e b.off)]
  exact b.ex c o e
theorem BuildV.here (b : BuildV v n M D l M' H') : H' D = some (.lst l) := b.vl.inn _ _ b.at_
end
end Own

/-! Small things that many laws share -/
namespace Own
open PySem PySem.Spec PyProof.Rows L2
section
variable {K : PySem.W.Frag}
def sp4 (f : V → V → V → V → Hp → VK → Prop) : Sp := fun vs H Q _ => ∃ x y z u, vs = [x, y, z, u] ∧ f x y z u H Q
theorem len4 {f : V → V → V → V → Hp → VK → Prop} {ps : List Str} (hp : ps.length = 4) : ∀ vs H Q E, sp4 f vs H Q E → vs.length = ps.length := fun _ _ _ _ h => by
  obtain ⟨x, y, z, u, rfl, _⟩ := h
  exact hp.symm
theorem vl_set {v : Addr} {n : Nat} {M H : Hp} {x y z : Int} (hi : Same M H) (ho : M v = none) (hx : 0 ≤ x) (hz : 0 ≤ z) (hn : z ≤ n) :
    Vl v n M (upd H v (.lst [.int x, .int y, .int z])) := by
  refine ⟨fun b o e => ?_, ho, x, y, z, upd_same, hx, hz, hn⟩
  have hb : b ≠ v := ne_of_none e ho
  rw [upd_ne hb]
  exact hi b o e
theorem tup_next {xs : List V} {Q : VK} {H M : Hp} (hM : Same M H) (hl : xs.length ≤ 1000) (q : ∀ p M' H', Gr M H M' H' → M' p = some (.tup xs) → Q (.ref p) H') :
    xs.length ≤ sizeLine ∧ ∀ p, H p = none → Q (.ref p) (upd H p (.tup xs)) :=
  ⟨Nat.le_of_lt (small1000 hl), fun p hp => q p _ _ (gr_new hM hp) upd_same⟩
def At (M : Hp) (p : Addr) (o : HO) : Prop := M p = some o
theorem At.mono {M M1 : Hp} {p : Addr} {o : HO} (h : At M p o) (e : Same M M1) : At M1 p o := e _ _ h
theorem szL {xs : List V} (h : Nat.ble xs.length 1000 = true) : xs.length ≤ sizeLine := Nat.le_of_lt (small1000 (Nat.le_of_ble_eq_true h))
theorem new_of {H H' M : Hp} {p : Addr} {o : HO} (e : upd H p o = H') (hM : Same M H) (hp : H p = none) : ∃ M', Gr M H M' H' ∧ At M' p o :=
  ⟨upd M p o, e ▸ gr_new hM hp, upd_same⟩
theorem lst_next {xs : List V} {Q : VK} {H M : Hp} (hM : Same M H) (hl : xs.length ≤ 1000) (q : ∀ p M' H', Gr M H M' H' → M' p = some (.lst xs) → Q (.ref p) H') :
    xs.length ≤ sizeLine ∧ ∀ p, H p = none → Q (.ref p) (upd H p (.lst xs)) :=
  ⟨Nat.le_of_lt (small1000 hl), fun p hp => q p _ _ (gr_new hM hp) upd_same⟩
theorem ok2 {d e : PyData} (h : Oky d) (k : Oky e) : Oky (.list [d, e]) := ⟨h, k, trivial⟩
theorem dp2 {M : Hp} {p : Addr} {x y : V} {d e : PyData} (h : M p = some (.lst [x, y])) (hx : Dp K M x d) (hy : Dp K M y e) : Dp K M (.ref p) (.list [d, e]) :=
  .lst (SqL.of h) (.cons hx (.cons hy .nil))
theorem bl_refl {Q : VK} {x : V} {H : Hp} (q : Q (.bl true) H) : Q (.bl (decide (x = x))) H := by
  rw [decide_eq_true rfl]
  exact q
theorem oki {i : Int} (h : i.natAbs < 10 ^ 300) : Oky (.int i) := h
theorem yes_if {σ : L2.St} {H : Hp} {A B : Hp → Prop} (h : A H) : tYes σ H (fun b H3 => if b = true then A H3 else B H3) := by
  show (if true = true then A H else B H)
  rw [if_pos rfl]
  exact h
theorem big_mul {i j : Int} (hi : i.natAbs < 10 ^ 300) (hj : j.natAbs < 10 ^ 300) : CMulW i j :=
  wide_mul (a := 1000) (b := 1000) (Nat.lt_trans hi (by decide +kernel)) (Nat.lt_trans hj (by decide +kernel)) (by decide) (by decide) (by decide)
theorem big_div {i j : Int} (h : 0 < j) (hj : j.natAbs < 10 ^ 300) : CDivW i j := wide_div (b := 1000) h (Nat.lt_trans hj (by decide +kernel)) (by decide) (by decide)
theorem kEqD {X : Cx} (hu : X.A.units + 64 < cLine) (h : X.K = K := by rfl) : OpR X (compareOp .Eq) (rEqD K) := by
  subst h
  exact op_eqD hu
theorem kNeD {X : Cx} (hu : X.A.units + 64 < cLine) (h : X.K = K := by rfl) : OpR X (compareOp .NotEq) (rNeD K) := by
  subst h
  exact op_neD hu
/-- a truth value, the heap grown -/
def Say (M H : Hp) (b : Bool) (Q : VK) : Prop := ∀ M' H', Gr M H M' H' → Q (.bl b) H'
theorem txt_len {i : Int} (h : i.natAbs < 10 ^ 300) : (Str.ofString (toString i)).length ≤ 301 := by
  rw [PySem.ofString_length]
  exact int_text_length_le10 (by decide) h
theorem abs_nn (i : Int) : 0 ≤ (if i < 0 then -i else i) := by split <;> omega
end
end Own

namespace K64
open PySem PySem.Spec PyProof.Rows L2 Own
def topS (i : Nat) : Stmt := PySem.Challenge.pw_pressworlds_k64_whole_moves_alike_commut.main.body.getD i (.Pass ⟨0, 0, 0, 0⟩)
abbrev s_is_integer : Stmt := topS 7
theorem sc_is_integer : FnScope ["value"] ["value"] (defScope s_is_integer) :=
  ⟨rfl, rfl, rfl, by decide +kernel, rfl, by decide +kernel, by decide +kernel⟩
abbrev s_is_shared : Stmt := topS 9
theorem sc_is_shared : FnScope ["number", "step"] ["number", "step"] (defScope s_is_shared) :=
  ⟨rfl, rfl, rfl, by decide +kernel, rfl, by decide +kernel, by decide +kernel⟩
abbrev s_combined : Stmt := topS 10
theorem sc_combined : FnScope ["one", "other", "left", "right", "by"] ["one", "other"] (defScope s_combined) :=
  ⟨rfl, rfl, rfl, by decide +kernel, rfl, by decide +kernel, by decide +kernel⟩
abbrev s_check_whole : Stmt := topS 12
theorem sc_check_whole : FnScope ["value"] ["value"] (defScope s_check_whole) :=
  ⟨rfl, rfl, rfl, by decide +kernel, rfl, by decide +kernel, by decide +kernel⟩
abbrev s_Move_init : Stmt := inClass (topS 13) 0
theorem sc_Move_init : FnScope ["self", "east", "north", "area"] ["self", "east", "north", "area"] (defScope s_Move_init) :=
  ⟨rfl, rfl, rfl, by decide +kernel, rfl, by decide +kernel, by decide +kernel⟩
abbrev s_Move_east : Stmt := inClass (topS 13) 2
theorem sc_Move_east : FnScope ["self"] ["self"] (defScope s_Move_east) :=
  ⟨rfl, rfl, rfl, by decide +kernel, rfl, by decide +kernel, by decide +kernel⟩
abbrev s_Move_north : Stmt := inClass (topS 13) 3
theorem sc_Move_north : FnScope ["self"] ["self"] (defScope s_Move_north) :=
  ⟨rfl, rfl, rfl, by decide +kernel, rfl, by decide +kernel, by decide +kernel⟩
abbrev s_Move_area : Stmt := inClass (topS 13) 4
theorem sc_Move_area : FnScope ["self"] ["self"] (defScope s_Move_area) :=
  ⟨rfl, rfl, rfl, by decide +kernel, rfl, by decide +kernel, by decide +kernel⟩
abbrev s_Move_str : Stmt := inClass (topS 13) 5
theorem sc_Move_str : FnScope ["self"] ["self"] (defScope s_Move_str) :=
  ⟨rfl, rfl, rfl, by decide +kernel, rfl, by decide +kernel, by decide +kernel⟩
abbrev s_Move_eq : Stmt := inClass (topS 13) 6
theorem sc_Move_eq : FnScope ["self", "other"] ["self", "other"] (defScope s_Move_eq) :=
  ⟨rfl, rfl, rfl, by decide +kernel, rfl, by decide +kernel, by decide +kernel⟩
abbrev s_check_move : Stmt := topS 15
theorem sc_check_move : FnScope ["value"] ["value"] (defScope s_check_move) :=
  ⟨rfl, rfl, rfl, by decide +kernel, rfl, by decide +kernel, by decide +kernel⟩
abbrev s_check_moves : Stmt := topS 16
theorem sc_check_moves : FnScope ["one", "other"] ["one", "other"] (defScope s_check_moves) :=
  ⟨rfl, rfl, rfl, by decide +kernel, rfl, by decide +kernel, by decide +kernel⟩
abbrev s_triple : Stmt := topS 17
theorem sc_triple : FnScope ["one"] ["one"] (defScope s_triple) :=
  ⟨rfl, rfl, rfl, by decide +kernel, rfl, by decide +kernel, by decide +kernel⟩
abbrev s_gap_of : Stmt := topS 18
theorem sc_gap_of : FnScope ["one", "other"] ["one", "other"] (defScope s_gap_of) :=
  ⟨rfl, rfl, rfl, by decide +kernel, rfl, by decide +kernel, by decide +kernel⟩
abbrev s_made_move : Stmt := topS 19
theorem sc_made_move : FnScope ["numbers"] ["numbers"] (defScope s_made_move) :=
  ⟨rfl, rfl, rfl, by decide +kernel, rfl, by decide +kernel, by decide +kernel⟩
abbrev s_link_of_moves : Stmt := topS 20
theorem sc_link_of_moves : FnScope ["one", "other", "x", "y", "gap", "by", "left", "right", "many"] ["one", "other"] (defScope s_link_of_moves) :=
  ⟨rfl, rfl, rfl, by decide +kernel, rfl, by decide +kernel, by decide +kernel⟩
abbrev s_root_of_move : Stmt := topS 21
theorem sc_root_of_move : FnScope ["one", "degree", "x", "y", "left"] ["one", "degree"] (defScope s_root_of_move) :=
  ⟨rfl, rfl, rfl, by decide +kernel, rfl, by decide +kernel, by decide +kernel⟩
abbrev s_is_move_alike : Stmt := topS 22
theorem sc_is_move_alike : FnScope ["one", "other"] ["one", "other"] (defScope s_is_move_alike) :=
  ⟨rfl, rfl, rfl, by decide +kernel, rfl, by decide +kernel, by decide +kernel⟩
abbrev s_move_alike : Stmt := topS 23
theorem sc_move_alike : FnScope ["one", "other", "found"] ["one", "other"] (defScope s_move_alike) :=
  ⟨rfl, rfl, rfl, by decide +kernel, rfl, by decide +kernel, by decide +kernel⟩
abbrev s_do_moves_commute : Stmt := topS 24
theorem sc_do_moves_commute : FnScope ["one", "other"] ["one", "other"] (defScope s_do_moves_commute) :=
  ⟨rfl, rfl, rfl, by decide +kernel, rfl, by decide +kernel, by decide +kernel⟩
abbrev s_move_root : Stmt := topS 25
theorem sc_move_root : FnScope ["one", "degree", "found"] ["one", "degree"] (defScope s_move_root) :=
  ⟨rfl, rfl, rfl, by decide +kernel, rfl, by decide +kernel, by decide +kernel⟩
abbrev s_l_reel : Stmt := topS 27
theorem sc_l_reel : FnScope ["_law_script", "_law_turn", "_law_own", "_law_mixed", "_law_entry"] ["_law_script", "_law_turn"] (defScope s_l_reel) :=
  ⟨rfl, rfl, rfl, by decide +kernel, rfl, by decide +kernel, by decide +kernel⟩
abbrev s_l_wind : Stmt := topS 28
theorem sc_l_wind : FnScope ["_law_reel_here", "_law_many", "_law_figure"] ["_law_reel_here", "_law_many"] (defScope s_l_wind) :=
  ⟨rfl, rfl, rfl, by decide +kernel, rfl, by decide +kernel, by decide +kernel⟩
abbrev s_l_one_of : Stmt := topS 29
theorem sc_l_one_of : FnScope ["_law_reel_here", "_law_menu"] ["_law_reel_here", "_law_menu"] (defScope s_l_one_of) :=
  ⟨rfl, rfl, rfl, by decide +kernel, rfl, by decide +kernel, by decide +kernel⟩
abbrev s_l_trip : Stmt := topS 30
theorem sc_l_trip : FnScope ["_law_reel_here", "_law_size", "_law_spot"] ["_law_reel_here", "_law_size"] (defScope s_l_trip) :=
  ⟨rfl, rfl, rfl, by decide +kernel, rfl, by decide +kernel, by decide +kernel⟩
abbrev s_l_put : Stmt := topS 31
theorem sc_l_put : FnScope ["_law_left", "_law_right_here"] ["_law_left", "_law_right_here"] (defScope s_l_put) :=
  ⟨rfl, rfl, rfl, by decide +kernel, rfl, by decide +kernel, by decide +kernel⟩
abbrev s_l_off : Stmt := topS 32
theorem sc_l_off : FnScope ["_law_trip_here"] ["_law_trip_here"] (defScope s_l_off) :=
  ⟨rfl, rfl, rfl, by decide +kernel, rfl, by decide +kernel, by decide +kernel⟩
abbrev s_l_power : Stmt := topS 33
theorem sc_l_power : FnScope ["_law_trip_here", "_law_count", "_law_here", "_law_found", "_law_left", "_law_turn", "_law_figure"] ["_law_trip_here", "_law_count"] (defScope s_l_power) :=
  ⟨rfl, rfl, rfl, by decide +kernel, rfl, by decide +kernel, by decide +kernel⟩
abbrev s_l_move : Stmt := topS 34
theorem sc_l_move : FnScope ["_law_trip_here"] ["_law_trip_here"] (defScope s_l_move) :=
  ⟨rfl, rfl, rfl, by decide +kernel, rfl, by decide +kernel, by decide +kernel⟩
abbrev s_l_three : Stmt := topS 35
theorem sc_l_three : FnScope ["_law_made"] ["_law_made"] (defScope s_l_three) :=
  ⟨rfl, rfl, rfl, by decide +kernel, rfl, by decide +kernel, by decide +kernel⟩
abbrev s_l_between : Stmt := topS 36
theorem sc_l_between : FnScope ["_law_by", "_law_trip_here"] ["_law_by", "_law_trip_here"] (defScope s_l_between) :=
  ⟨rfl, rfl, rfl, by decide +kernel, rfl, by decide +kernel, by decide +kernel⟩
abbrev s_l_are_alike : Stmt := topS 37
theorem sc_l_are_alike : FnScope ["_law_first", "_law_last", "_law_x", "_law_y"] ["_law_first", "_law_last"] (defScope s_l_are_alike) :=
  ⟨rfl, rfl, rfl, by decide +kernel, rfl, by decide +kernel, by decide +kernel⟩
abbrev s_l_alike_right : Stmt := topS 38
theorem sc_l_alike_right : FnScope ["_law_first", "_law_last", "_law_due", "_law_made", "_law_mate", "_law_ways", "_law_shown", "_law_begin", "_law_goal", "_law_told"] ["_law_first", "_law_last", "_law_due"] (defScope s_l_alike_right) :=
  ⟨rfl, rfl, rfl, by decide +kernel, rfl, by decide +kernel, by decide +kernel⟩
abbrev s_l_has_root : Stmt := topS 39
theorem sc_l_has_root : FnScope ["_law_trip_here", "_law_level", "_law_x", "_law_y", "_law_s"] ["_law_trip_here", "_law_level"] (defScope s_l_has_root) :=
  ⟨rfl, rfl, rfl, by decide +kernel, rfl, by decide +kernel, by decide +kernel⟩
abbrev s_l_roots_right : Stmt := topS 40
theorem sc_l_roots_right : FnScope ["_law_reel_here", "_law_level", "_law_trip_here", "_law_told", "_law_due", "_law_part", "_law_many", "_law_whole", "_law_each", "_law_number"] ["_law_reel_here"] (defScope s_l_roots_right) :=
  ⟨rfl, rfl, rfl, by decide +kernel, rfl, by decide +kernel, by decide +kernel⟩
abbrev s_l_right : Stmt := topS 41
theorem sc_l_right : FnScope ["_law_reel_here", "_law_turn", "_law_first", "_law_by", "_law_some", "_law_last", "_law_great", "_law_side", "_law_number"] ["_law_reel_here"] (defScope s_l_right) :=
  ⟨rfl, rfl, rfl, by decide +kernel, rfl, by decide +kernel, by decide +kernel⟩
abbrev s_law : Stmt := topS 42
theorem sc_law : FnScope ["_law_script", "_law_turn"] ["_law_script"] (defScope s_law) :=
  ⟨rfl, rfl, rfl, by decide +kernel, rfl, by decide +kernel, by decide +kernel⟩
structure Ad where
  f_is_integer : Addr
  d_is_integer : FuncData
  f_is_shared : Addr
  d_is_shared : FuncData
  f_combined : Addr
  d_combined : FuncData
  f_check_whole : Addr
  d_check_whole : FuncData
  f_Move_init : Addr
  d_Move_init : FuncData
  f_Move_east : Addr
  d_Move_east : FuncData
  f_Move_north : Addr
  d_Move_north : FuncData
  f_Move_area : Addr
  d_Move_area : FuncData
  f_Move_str : Addr
  d_Move_str : FuncData
  f_Move_eq : Addr
  d_Move_eq : FuncData
  f_check_move : Addr
  d_check_move : FuncData
  f_check_moves : Addr
  d_check_moves : FuncData
  f_triple : Addr
  d_triple : FuncData
  f_gap_of : Addr
  d_gap_of : FuncData
  f_made_move : Addr
  d_made_move : FuncData
  f_link_of_moves : Addr
  d_link_of_moves : FuncData
  f_root_of_move : Addr
  d_root_of_move : FuncData
  f_is_move_alike : Addr
  d_is_move_alike : FuncData
  f_move_alike : Addr
  d_move_alike : FuncData
  f_do_moves_commute : Addr
  d_do_moves_commute : FuncData
  f_move_root : Addr
  d_move_root : FuncData
  f_l_reel : Addr
  d_l_reel : FuncData
  f_l_wind : Addr
  d_l_wind : FuncData
  f_l_one_of : Addr
  d_l_one_of : FuncData
  f_l_trip : Addr
  d_l_trip : FuncData
  f_l_put : Addr
  d_l_put : FuncData
  f_l_off : Addr
  d_l_off : FuncData
  f_l_power : Addr
  d_l_power : FuncData
  f_l_move : Addr
  d_l_move : FuncData
  f_l_three : Addr
  d_l_three : FuncData
  f_l_between : Addr
  d_l_between : FuncData
  f_l_are_alike : Addr
  d_l_are_alike : FuncData
  f_l_alike_right : Addr
  d_l_alike_right : FuncData
  f_l_has_root : Addr
  d_l_has_root : FuncData
  f_l_roots_right : Addr
  d_l_roots_right : FuncData
  f_l_right : Addr
  d_l_right : FuncData
  f_law : Addr
  d_law : FuncData
  C_Move : Addr
  p_Move_east : Addr
  p_Move_north : Addr
  p_Move_area : Addr
structure Txt (K : PySem.W.Frag) (mg : Str → Option Value) (a : Ad) : Prop where
  F_is_integer : Fun K "is_integer" "is_integer" s_is_integer a.f_is_integer a.d_is_integer
  b_is_integer : Binds K a.d_is_integer ["value"] []
  g_is_integer : mg "is_integer" = some (.ref a.f_is_integer)
  F_is_shared : Fun K "is_shared" "is_shared" s_is_shared a.f_is_shared a.d_is_shared
  b_is_shared : Binds K a.d_is_shared ["number", "step"] []
  g_is_shared : mg "is_shared" = some (.ref a.f_is_shared)
  F_combined : Fun K "combined" "combined" s_combined a.f_combined a.d_combined
  b_combined : Binds K a.d_combined ["one", "other"] []
  g_combined : mg "combined" = some (.ref a.f_combined)
  F_check_whole : Fun K "check_whole" "check_whole" s_check_whole a.f_check_whole a.d_check_whole
  b_check_whole : Binds K a.d_check_whole ["value"] []
  g_check_whole : mg "check_whole" = some (.ref a.f_check_whole)
  F_Move_init : Fun K "__init__" "Move.__init__" s_Move_init a.f_Move_init a.d_Move_init
  b_Move_init : Binds K a.d_Move_init ["self", "east", "north", "area"] []
  F_Move_east : Fun K "east" "Move.east" s_Move_east a.f_Move_east a.d_Move_east
  b_Move_east : Binds K a.d_Move_east ["self"] []
  F_Move_north : Fun K "north" "Move.north" s_Move_north a.f_Move_north a.d_Move_north
  b_Move_north : Binds K a.d_Move_north ["self"] []
  F_Move_area : Fun K "area" "Move.area" s_Move_area a.f_Move_area a.d_Move_area
  b_Move_area : Binds K a.d_Move_area ["self"] []
  F_Move_str : Fun K "__str__" "Move.__str__" s_Move_str a.f_Move_str a.d_Move_str
  b_Move_str : Binds K a.d_Move_str ["self"] []
  F_Move_eq : Fun K "__eq__" "Move.__eq__" s_Move_eq a.f_Move_eq a.d_Move_eq
  b_Move_eq : Binds K a.d_Move_eq ["self", "other"] []
  F_check_move : Fun K "check_move" "check_move" s_check_move a.f_check_move a.d_check_move
  b_check_move : Binds K a.d_check_move ["value"] []
  g_check_move : mg "check_move" = some (.ref a.f_check_move)
  F_check_moves : Fun K "check_moves" "check_moves" s_check_moves a.f_check_moves a.d_check_moves
  b_check_moves : Binds K a.d_check_moves ["one", "other"] []
  g_check_moves : mg "check_moves" = some (.ref a.f_check_moves)
  F_triple : Fun K "triple" "triple" s_triple a.f_triple a.d_triple
  b_triple : Binds K a.d_triple ["one"] []
  g_triple : mg "triple" = some (.ref a.f_triple)
  F_gap_of : Fun K "gap_of" "gap_of" s_gap_of a.f_gap_of a.d_gap_of
  b_gap_of : Binds K a.d_gap_of ["one", "other"] []
  g_gap_of : mg "gap_of" = some (.ref a.f_gap_of)
  F_made_move : Fun K "made_move" "made_move" s_made_move a.f_made_move a.d_made_move
  b_made_move : Binds K a.d_made_move ["numbers"] []
  g_made_move : mg "made_move" = some (.ref a.f_made_move)
  F_link_of_moves : Fun K "link_of_moves" "link_of_moves" s_link_of_moves a.f_link_of_moves a.d_link_of_moves
  b_link_of_moves : Binds K a.d_link_of_moves ["one", "other"] []
  g_link_of_moves : mg "link_of_moves" = some (.ref a.f_link_of_moves)
  F_root_of_move : Fun K "root_of_move" "root_of_move" s_root_of_move a.f_root_of_move a.d_root_of_move
  b_root_of_move : Binds K a.d_root_of_move ["one", "degree"] []
  g_root_of_move : mg "root_of_move" = some (.ref a.f_root_of_move)
  F_is_move_alike : Fun K "is_move_alike" "is_move_alike" s_is_move_alike a.f_is_move_alike a.d_is_move_alike
  b_is_move_alike : Binds K a.d_is_move_alike ["one", "other"] []
  g_is_move_alike : mg "is_move_alike" = some (.ref a.f_is_move_alike)
  F_move_alike : Fun K "move_alike" "move_alike" s_move_alike a.f_move_alike a.d_move_alike
  b_move_alike : Binds K a.d_move_alike ["one", "other"] []
  g_move_alike : mg "move_alike" = some (.ref a.f_move_alike)
  F_do_moves_commute : Fun K "do_moves_commute" "do_moves_commute" s_do_moves_commute a.f_do_moves_commute a.d_do_moves_commute
  b_do_moves_commute : Binds K a.d_do_moves_commute ["one", "other"] []
  g_do_moves_commute : mg "do_moves_commute" = some (.ref a.f_do_moves_commute)
  F_move_root : Fun K "move_root" "move_root" s_move_root a.f_move_root a.d_move_root
  b_move_root : Binds K a.d_move_root ["one", "degree"] []
  g_move_root : mg "move_root" = some (.ref a.f_move_root)
  F_l_reel : Fun K "_law_reel" "_law_reel" s_l_reel a.f_l_reel a.d_l_reel
  b_l_reel : Binds K a.d_l_reel ["_law_script", "_law_turn"] []
  g_l_reel : mg "_law_reel" = some (.ref a.f_l_reel)
  F_l_wind : Fun K "_law_wind" "_law_wind" s_l_wind a.f_l_wind a.d_l_wind
  b_l_wind : Binds K a.d_l_wind ["_law_reel_here", "_law_many"] []
  g_l_wind : mg "_law_wind" = some (.ref a.f_l_wind)
  F_l_one_of : Fun K "_law_one_of" "_law_one_of" s_l_one_of a.f_l_one_of a.d_l_one_of
  b_l_one_of : Binds K a.d_l_one_of ["_law_reel_here", "_law_menu"] []
  g_l_one_of : mg "_law_one_of" = some (.ref a.f_l_one_of)
  F_l_trip : Fun K "_law_trip" "_law_trip" s_l_trip a.f_l_trip a.d_l_trip
  b_l_trip : Binds K a.d_l_trip ["_law_reel_here", "_law_size"] []
  g_l_trip : mg "_law_trip" = some (.ref a.f_l_trip)
  F_l_put : Fun K "_law_put" "_law_put" s_l_put a.f_l_put a.d_l_put
  b_l_put : Binds K a.d_l_put ["_law_left", "_law_right_here"] []
  g_l_put : mg "_law_put" = some (.ref a.f_l_put)
  F_l_off : Fun K "_law_off" "_law_off" s_l_off a.f_l_off a.d_l_off
  b_l_off : Binds K a.d_l_off ["_law_trip_here"] []
  g_l_off : mg "_law_off" = some (.ref a.f_l_off)
  F_l_power : Fun K "_law_power" "_law_power" s_l_power a.f_l_power a.d_l_power
  b_l_power : Binds K a.d_l_power ["_law_trip_here", "_law_count"] []
  g_l_power : mg "_law_power" = some (.ref a.f_l_power)
  F_l_move : Fun K "_law_move" "_law_move" s_l_move a.f_l_move a.d_l_move
  b_l_move : Binds K a.d_l_move ["_law_trip_here"] []
  g_l_move : mg "_law_move" = some (.ref a.f_l_move)
  F_l_three : Fun K "_law_three" "_law_three" s_l_three a.f_l_three a.d_l_three
  b_l_three : Binds K a.d_l_three ["_law_made"] []
  g_l_three : mg "_law_three" = some (.ref a.f_l_three)
  F_l_between : Fun K "_law_between" "_law_between" s_l_between a.f_l_between a.d_l_between
  b_l_between : Binds K a.d_l_between ["_law_by", "_law_trip_here"] []
  g_l_between : mg "_law_between" = some (.ref a.f_l_between)
  F_l_are_alike : Fun K "_law_are_alike" "_law_are_alike" s_l_are_alike a.f_l_are_alike a.d_l_are_alike
  b_l_are_alike : Binds K a.d_l_are_alike ["_law_first", "_law_last"] []
  g_l_are_alike : mg "_law_are_alike" = some (.ref a.f_l_are_alike)
  F_l_alike_right : Fun K "_law_alike_right" "_law_alike_right" s_l_alike_right a.f_l_alike_right a.d_l_alike_right
  b_l_alike_right : Binds K a.d_l_alike_right ["_law_first", "_law_last", "_law_due"] []
  g_l_alike_right : mg "_law_alike_right" = some (.ref a.f_l_alike_right)
  F_l_has_root : Fun K "_law_has_root" "_law_has_root" s_l_has_root a.f_l_has_root a.d_l_has_root
  b_l_has_root : Binds K a.d_l_has_root ["_law_trip_here", "_law_level"] []
  g_l_has_root : mg "_law_has_root" = some (.ref a.f_l_has_root)
  F_l_roots_right : Fun K "_law_roots_right" "_law_roots_right" s_l_roots_right a.f_l_roots_right a.d_l_roots_right
  b_l_roots_right : Binds K a.d_l_roots_right ["_law_reel_here"] []
  g_l_roots_right : mg "_law_roots_right" = some (.ref a.f_l_roots_right)
  F_l_right : Fun K "_law_right" "_law_right" s_l_right a.f_l_right a.d_l_right
  b_l_right : Binds K a.d_l_right ["_law_reel_here"] []
  g_l_right : mg "_law_right" = some (.ref a.f_l_right)
  F_law : Fun K "law" "law" s_law a.f_law a.d_law
  b_law : Binds K a.d_law ["_law_script"] []
  g_law : mg "law" = some (.ref a.f_law)
  k_is_move_alike : KBinds K a.d_is_move_alike ["one", "other"] ["other", "one"] gRev gRev
  k_move_alike : KBinds K a.d_move_alike ["one", "other"] ["other", "one"] gRev gRev
  k_do_moves_commute : KBinds K a.d_do_moves_commute ["one", "other"] ["other", "one"] gRev gRev
  k_move_root : KBinds K a.d_move_root ["one", "degree"] ["degree", "one"] gRev gRev
  g_Move : mg "Move" = some (.ref a.C_Move)
  o_Move : OwnC K a.C_Move
  m_Move : Mk K a.C_Move a.f_Move_init
  n_Move_own_east : NoAttr K a.C_Move "own_east"
  n_Move_own_north : NoAttr K a.C_Move "own_north"
  n_Move_own_area : NoAttr K a.C_Move "own_area"
  p_Move_east : PropOf K a.C_Move "east" a.p_Move_east a.f_Move_east
  p_Move_north : PropOf K a.C_Move "north" a.p_Move_north a.f_Move_north
  p_Move_area : PropOf K a.C_Move "area" a.p_Move_area a.f_Move_area
  s_Move : PySem.W.findIn K (.ref a.C_Move) "__str__" = some (some (.ref a.f_Move_str))
  sf_Move : PySem.W.isFn K (.ref a.f_Move_str) = true
  e_Move : EqC K a.C_Move a.f_Move_eq
  z_abs : mg "abs" = none
  z_all : mg "all" = none
  z_bool : mg "bool" = none
  z_divmod : mg "divmod" = none
  z_int : mg "int" = none
  z_isinstance : mg "isinstance" = none
  z_len : mg "len" = none
  z_range : mg "range" = none
  z_repr : mg "repr" = none
  z_str : mg "str" = none
  z_tuple : mg "tuple" = none

end K64

namespace K64
open PySem PySem.Spec PyProof.Rows L2 Own
section
variable {P : Program} {w : World} {K : PySem.W.Frag} {mg : Str → Option Value} {base : Heap} {a : Ad}
/-! ### moves as three numbers -/
abbrev T3 := Int × Int × Int
def putT (x y : T3) : T3 := (x.1 + y.1, x.2.1 + y.2.1, x.2.2 + y.2.2 + x.1 * y.2.1)
def offT (x : T3) : T3 := (0 - x.1, 0 - x.2.1, x.1 * x.2.1 - x.2.2)
def Sm (t : T3) : Prop := t.1.natAbs < 10 ^ 300 ∧ t.2.1.natAbs < 10 ^ 300 ∧ t.2.2.natAbs < 10 ^ 300
def mvText (t : T3) : Str := (((((Str.empty ++ ("areas " : Str)) ++ (toString t.1 : String)) ++ (" " : Str)) ++ (toString t.2.1 : String)) ++ (" " : Str)) ++ (toString t.2.2 : String)
def Mv (C : Addr) (M : Hp) (x : V) (t : T3) : Prop := ∃ p dx, x = .ref p ∧ M p = some (.ins C dx [("own_east", .int t.1), ("own_north", .int t.2.1), ("own_area", .int t.2.2)])
theorem Mv.mono {C : Addr} {M M1 : Hp} {x : V} {t : T3} (h : Mv C M x t) (e : Same M M1) : Mv C M1 x t := by
  obtain ⟨p, dx, r, h⟩ := h
  exact ⟨p, dx, r, e _ _ h⟩
def TripAt (M : Hp) (x : V) (t : T3) : Prop := ∃ p, x = .ref p ∧ M p = some (.tup [.int t.1, .int t.2.1, .int t.2.2])
theorem TripAt.mono {M M1 : Hp} {x : V} {t : T3} (h : TripAt M x t) (e : Same M M1) : TripAt M1 x t := by
  obtain ⟨p, r, h⟩ := h
  exact ⟨p, r, e _ _ h⟩
def dT (t : T3) : PyData := .tuple [.int t.1, .int t.2.1, .int t.2.2]
theorem TripAt.dp {M : Hp} {x : V} {t : T3} (h : TripAt M x t) : Dp K M x (dT t) := by
  obtain ⟨p, rfl, h⟩ := h
  exact .tup (SqT.of h) (.cons (.int _) (.cons (.int _) (.cons (.int _) .nil)))
theorem eqv_dT (s t : T3) : PyData.eqv (dT s) (dT t) = decide (s = t) := by
  obtain ⟨x, n, k⟩ := s
  obtain ⟨y, m, l⟩ := t
  have e : PyData.eqv (dT (x, n, k)) (dT (y, m, l)) = ((x == y) && ((n == m) && ((k == l) && true))) := rfl
  rw [e]
  by_cases h1 : x = y
  · by_cases h2 : n = m
    · by_cases h3 : k = l
      · subst h1; subst h2; subst h3
        simp
      · simp [h3]
    · simp [h2]
  · simp [h1]
theorem sh_dT (s : T3) : SeqAt.shaped (dT s) = true := rfl
theorem rd_t0 {σ : L2.St} {H : Hp} {x : V} {t : T3} {Q : VK} (h : TripAt H x t) (q : Q (.int t.1) H) :
    tC (V.int 0) σ H fun y H2 => rIxT K x y H2 Q := by
  obtain ⟨p, rfl, h⟩ := h
  exact ⟨p, _, 0, _, rfl, rfl, SqT.of h, rfl, q⟩
theorem rd_t1 {σ : L2.St} {H : Hp} {x : V} {t : T3} {Q : VK} (h : TripAt H x t) (q : Q (.int t.2.1) H) :
    tC (V.int 1) σ H fun y H2 => rIxT K x y H2 Q := by
  obtain ⟨p, rfl, h⟩ := h
  exact ⟨p, _, 1, _, rfl, rfl, SqT.of h, rfl, q⟩
theorem rd_t2 {σ : L2.St} {H : Hp} {x : V} {t : T3} {Q : VK} (h : TripAt H x t) (q : Q (.int t.2.2) H) :
    tC (V.int 2) σ H fun y H2 => rIxT K x y H2 Q := by
  obtain ⟨p, rfl, h⟩ := h
  exact ⟨p, _, 2, _, rfl, rfl, SqT.of h, rfl, q⟩
def NewT (M H : Hp) (t : T3) (Q : VK) : Prop := ∀ r M' H', Gr M H M' H' → TripAt M' r t → Q r H'
theorem trip_next {Q : VK} {H M : Hp} {t : T3} (hM : Same M H) (q : NewT M H t Q) :
    [V.int t.1, V.int t.2.1, V.int t.2.2].length ≤ sizeLine ∧ ∀ p, H p = none → Q (.ref p) (upd H p (.tup [.int t.1, .int t.2.1, .int t.2.2])) :=
  tup_next hM (by show 3 ≤ 1000; decide) fun p M' H' g h => q _ M' H' g ⟨p, rfl, h⟩
/-- is_integer, check_whole, of an int -/
def spIsInt : Sp := sp1 fun x H Q => ∃ i, x = .int i ∧ Q (.bl true) H
theorem ok_is_integer (T : Txt K mg a) : FnOk P w K mg base CX0 1 a.f_is_integer a.d_is_integer ["value"] spIsInt := by
  refine T.F_is_integer.ok sc_is_integer (len1 rfl) (fun cdv A outer s H vs Q E hr h => ?_)
  obtain ⟨x, rfl, i, rfl, q⟩ := h
  refine ⟨_, (pss_one (ps_ret (pe_and (pe_callB call_isi (by rfl) T.z_isinstance (by decide +kernel) (pa_cons (pv 0) (pa_cons (pe_bltn (v := .ty "int") (by rfl) T.z_int (by decide +kernel) rfl) pa_nil))) (pe_one (pe_not (pe_callB call_isi (by rfl) T.z_isinstance (by decide +kernel) (pa_cons (pv 0) (pa_cons (pe_bltn (v := .ty "bool") (by rfl) T.z_bool (by decide +kernel) rfl) pa_nil)))))))), ?_⟩
  refine ⟨_, rfl, _, _, _, _, true, rfl, .ty _, i_int i, kit_ty (by decide +kernel), true, rfl, iteT ?_⟩
  exact ⟨_, rfl, _, _, _, _, false, rfl, .ty _, i_int i, kit_ty (by decide +kernel), false, rfl, q⟩
def spWhole : Sp := sp1 fun x H Q => ∃ i, x = .int i ∧ Q .non H
theorem ok_check_whole (T : Txt K mg a) : FnOk P w K mg base CX0 2 a.f_check_whole a.d_check_whole ["value"] spWhole := by
  refine T.F_check_whole.ok sc_check_whole (len1 rfl) (fun cdv A outer s H vs Q E hr h => ?_)
  obtain ⟨x, rfl, i, rfl, q⟩ := h
  exact ⟨_, (pss_one (ps_if (pt_not (pt_val (pe_call (ok_is_integer T) (hr.mono (by decide)) (by rfl) T.g_is_integer T.F_is_integer.kp T.b_is_integer .nil pass0 (pa_cons (pv 0) pa_nil))))
      (pss_one ps_never) pss_nil)), _, rfl, _, rfl, _, rfl, true, rfl, iteF q⟩
/-- Move.__init__ -/
def spMoveInit (C : Addr) : Sp := sp4 fun x y z u H Q => ∃ p dx, ∃ t : T3, x = .ref p ∧ y = .int t.1 ∧ z = .int t.2.1 ∧ u = .int t.2.2 ∧ H p = some (.ins C dx []) ∧
  Q .non (upd H p (.ins C dx [("own_east", .int t.1), ("own_north", .int t.2.1), ("own_area", .int t.2.2)]))
theorem ok_Move_init (T : Txt K mg a) : FnOk P w K mg base CX0 3 a.f_Move_init a.d_Move_init ["self", "east", "north", "area"] (spMoveInit a.C_Move) := by
  refine T.F_Move_init.ok sc_Move_init (len4 rfl) (fun cdv A outer s H vs Q E hr h => ?_)
  obtain ⟨_, _, _, _, rfl, p, dx, ⟨x, y, z⟩, rfl, rfl, rfl, rfl, hp, q⟩ := h
  refine ⟨_, (pss_cons (ps_expr (pe_call (ok_check_whole T) (hr.mono (by decide)) (by rfl) T.g_check_whole T.F_check_whole.kp T.b_check_whole .nil pass0 (pa_cons (pv 1) pa_nil)))
      (pss_cons (ps_expr (pe_call (ok_check_whole T) (hr.mono (by decide)) (by rfl) T.g_check_whole T.F_check_whole.kp T.b_check_whole .nil pass0 (pa_cons (pv 2) pa_nil)))
      (pss_cons (ps_expr (pe_call (ok_check_whole T) (hr.mono (by decide)) (by rfl) T.g_check_whole T.F_check_whole.kp T.b_check_whole .nil pass0 (pa_cons (pv 3) pa_nil)))
      (pss_cons (ps_fld (pv 0) (pv 1) rfl)
      (pss_cons (ps_fld (pv 0) (pv 2) rfl)
      (pss_one (ps_fld (pv 0) (pv 3) rfl))))))), ?_⟩
  refine ⟨_, rfl, _, rfl, _, rfl, _, rfl, _, rfl, _, rfl, _, rfl, _, rfl, _, rfl, ?_⟩
  refine ⟨_, rfl, _, rfl, p, _, dx, _, rfl, hp, T.o_Move.cl, T.n_Move_own_east, by decide, ?_⟩
  refine ⟨_, rfl, _, rfl, p, _, dx, _, rfl, upd_same, T.o_Move.cl, T.n_Move_own_north, (by show (1 : Nat) < 1000; decide), ?_⟩
  rw [upd_upd]
  refine ⟨_, rfl, _, rfl, p, _, dx, _, rfl, upd_same, T.o_Move.cl, T.n_Move_own_area, (by show (2 : Nat) < 1000; decide), ?_⟩
  rw [upd_upd]
  exact q
/-- a move is made -/
def New3 (C : Addr) (M H : Hp) (t : T3) (Q : VK) : Prop := ∀ r M' H', Gr M H M' H' → Mv C M' r t → Q r H'
theorem mk_move {C : Addr} {M H : Hp} {t : T3} {Q : VK} {E : XK} (hM : Same M H) (q : New3 C M H t Q) :
    ∀ x dx, H x = none → H dx = none → dx ≠ x → spMoveInit C (.ref x :: ([.int t.1, .int t.2.1, .int t.2.2] ++ [])) (upd (upd H dx (.own x)) x (.ins C dx [])) (fun v H2 => v = .non ∧ Q (.ref x) H2) E := by
  intro x dx hx hd ne
  refine ⟨_, _, _, _, rfl, x, dx, t, rfl, rfl, rfl, rfl, upd_same, rfl, ?_⟩
  rw [upd_upd]
  exact q _ _ _ (gr_ins hM hx hd ne) ⟨x, dx, rfl, upd_same⟩
theorem mv_of {C : Addr} {M H H' : Hp} {x dx : Addr} {t : T3} (e : upd (upd H dx (.own x)) x (.ins C dx [("own_east", .int t.1), ("own_north", .int t.2.1), ("own_area", .int t.2.2)]) = H') (hM : Same M H) (hx : H x = none) (hd : H dx = none) (ne : dx ≠ x) :
    ∃ M', Gr M H M' H' ∧ Mv C M' (.ref x) t := ⟨_, e ▸ gr_ins hM hx hd ne, x, dx, rfl, upd_same⟩
/-- the properties -/
def spEast (C : Addr) : Sp := sp1 fun x H Q => ∃ t, Mv C H x t ∧ Q (.int t.1) H
def spNorth (C : Addr) : Sp := sp1 fun x H Q => ∃ t, Mv C H x t ∧ Q (.int t.2.1) H
def spArea (C : Addr) : Sp := sp1 fun x H Q => ∃ t, Mv C H x t ∧ Q (.int t.2.2) H
theorem ok_Move_east (T : Txt K mg a) : FnOk P w K mg base CX0 1 a.f_Move_east a.d_Move_east ["self"] (spEast a.C_Move) := by
  refine T.F_Move_east.ok sc_Move_east (len1 rfl) (fun cdv A outer s H vs Q E hr h => ?_)
  obtain ⟨_, rfl, t, ⟨p, dx, rfl, hp⟩, q⟩ := h
  exact ⟨_, (pss_one (ps_ret (pe_fld (pv 0) rfl))), ⟨_, rfl, p, _, dx, _, _, rfl, hp, T.o_Move.cl, T.n_Move_own_east, rfl, q⟩⟩
theorem ok_Move_north (T : Txt K mg a) : FnOk P w K mg base CX0 1 a.f_Move_north a.d_Move_north ["self"] (spNorth a.C_Move) := by
  refine T.F_Move_north.ok sc_Move_north (len1 rfl) (fun cdv A outer s H vs Q E hr h => ?_)
  obtain ⟨_, rfl, t, ⟨p, dx, rfl, hp⟩, q⟩ := h
  exact ⟨_, (pss_one (ps_ret (pe_fld (pv 0) rfl))), ⟨_, rfl, p, _, dx, _, _, rfl, hp, T.o_Move.cl, T.n_Move_own_north, rfl, q⟩⟩
theorem ok_Move_area (T : Txt K mg a) : FnOk P w K mg base CX0 1 a.f_Move_area a.d_Move_area ["self"] (spArea a.C_Move) := by
  refine T.F_Move_area.ok sc_Move_area (len1 rfl) (fun cdv A outer s H vs Q E hr h => ?_)
  obtain ⟨_, rfl, t, ⟨p, dx, rfl, hp⟩, q⟩ := h
  exact ⟨_, (pss_one (ps_ret (pe_fld (pv 0) rfl))), ⟨_, rfl, p, _, dx, _, _, rfl, hp, T.o_Move.cl, T.n_Move_own_area, rfl, q⟩⟩
theorem rd_east {C : Addr} {H : Hp} {x : V} {t : T3} {Q : VK} {E : XK} (h : Mv C H x t) (q : Q (.int t.1) H) :
    ∃ p dx fs, x = .ref p ∧ H p = some (.ins C dx fs) ∧ spEast C (.ref p :: []) H Q E := by
  obtain ⟨p, dx, rfl, hp⟩ := h
  exact ⟨p, dx, _, rfl, hp, _, rfl, t, ⟨p, dx, rfl, hp⟩, q⟩
theorem rd_north {C : Addr} {H : Hp} {x : V} {t : T3} {Q : VK} {E : XK} (h : Mv C H x t) (q : Q (.int t.2.1) H) :
    ∃ p dx fs, x = .ref p ∧ H p = some (.ins C dx fs) ∧ spNorth C (.ref p :: []) H Q E := by
  obtain ⟨p, dx, rfl, hp⟩ := h
  exact ⟨p, dx, _, rfl, hp, _, rfl, t, ⟨p, dx, rfl, hp⟩, q⟩
theorem rd_area {C : Addr} {H : Hp} {x : V} {t : T3} {Q : VK} {E : XK} (h : Mv C H x t) (q : Q (.int t.2.2) H) :
    ∃ p dx fs, x = .ref p ∧ H p = some (.ins C dx fs) ∧ spArea C (.ref p :: []) H Q E := by
  obtain ⟨p, dx, rfl, hp⟩ := h
  exact ⟨p, dx, _, rfl, hp, _, rfl, t, ⟨p, dx, rfl, hp⟩, q⟩
/-- the text -/
def spMoveStr (C : Addr) : Sp := sp1 fun x H Q => ∃ t, Mv C H x t ∧ Sm t ∧ Q (.str (mvText t)) H
theorem ok_Move_str (T : Txt K mg a) : FnOk P w K mg base CX0 1 a.f_Move_str a.d_Move_str ["self"] (spMoveStr a.C_Move) := by
  refine T.F_Move_str.ok sc_Move_str (len1 rfl) (fun cdv A outer s H vs Q E hr h => ?_)
  obtain ⟨_, rfl, t, ⟨p, dx, rfl, hp⟩, ⟨b1, b2, b3⟩, q⟩ := h
  refine ⟨_, (pss_one (ps_ret (pe_joined (.cons pe_str (.cons (pe_fmt (pe_fld (pv 0) rfl)) (.cons pe_str (.cons (pe_fmt (pe_fld (pv 0) rfl)) (.cons pe_str (.cons (pe_fmt (pe_fld (pv 0) rfl)) .nil))))))))), ?_⟩
  have l1 := txt_len b1
  have l2 := txt_len b2
  have l3 := txt_len b3
  have l0 : Str.empty.length = 0 := by decide
  have l4 : ("areas " : Str).length = 6 := by decide
  have l5 : (" " : Str).length = 1 := by decide
  refine ⟨_, rfl, by decide, _, rfl, p, _, dx, _, _, rfl, hp, T.o_Move.cl, T.n_Move_own_east, rfl, .inr ⟨t.1, rfl, log_lt b1, _, rfl, ?_, ?_⟩⟩
  · simp only [strLen_append, l0, l4, sizeLine_eq]; omega
  refine ⟨_, rfl, ?_, _, rfl, p, _, dx, _, _, rfl, hp, T.o_Move.cl, T.n_Move_own_north, rfl, .inr ⟨t.2.1, rfl, log_lt b2, _, rfl, ?_, ?_⟩⟩
  · simp only [strLen_append, l0, l4, l5, sizeLine_eq]; omega
  · simp only [strLen_append, l0, l4, l5, sizeLine_eq]; omega
  refine ⟨_, rfl, ?_, _, rfl, p, _, dx, _, _, rfl, hp, T.o_Move.cl, T.n_Move_own_area, rfl, .inr ⟨t.2.2, rfl, log_lt b3, _, rfl, ?_, ?_⟩⟩
  · simp only [strLen_append, l0, l4, l5, sizeLine_eq]; omega
  · simp only [strLen_append, l0, l4, l5, sizeLine_eq]; omega
  exact q
/-- == of two moves -/
theorem mvText_inj {s t : T3} (h : mvText s = mvText t) : s = t := by
  have e := congrArg (fun x : Str => x.cps.toList) h
  simp only [mvText, toList_app, tl_int] at e
  have sp : (" " : Str).cps.toList = [32] := by decide +kernel
  simp only [sp, List.append_assoc, List.append_cancel_left_eq, List.cons_append, List.nil_append] at e
  have no : ∀ i : Int, (32 : Nat) ∉ intL i := by
    intro i h
    unfold intL at h
    split at h
    · rcases List.mem_cons.mp h with h | h
      · cases h
      · exact TL.numL_free (.inl (by decide)) h
    · exact TL.numL_free (.inl (by decide)) h
  have cut : ∀ (x y u v : List Nat), 32 ∉ x → 32 ∉ y → x ++ 32 :: u = y ++ 32 :: v → x = y ∧ u = v := by
    intro x
    induction x with
    | nil =>
      intro y u v _ hy e
      cases y with
      | nil => injection e with _ e; exact ⟨rfl, e⟩
      | cons b y => injection e with e1 _; subst e1; exact absurd (List.Mem.head _) hy
    | cons b x ih =>
      intro y u v hx hy e
      cases y with
      | nil => injection e with e1 _; subst e1; exact absurd (List.Mem.head _) hx
      | cons c y =>
        injection e with e1 e2
        subst e1
        have z := ih y u v (fun h => hx (List.Mem.tail _ h)) (fun h => hy (List.Mem.tail _ h)) e2
        exact ⟨by rw [z.1], z.2⟩
  obtain ⟨e1, e2⟩ := cut _ _ _ _ (no _) (no _) e
  obtain ⟨e3, e4⟩ := cut _ _ _ _ (no _) (no _) e2
  obtain ⟨x, y, z⟩ := s
  obtain ⟨x', y', z'⟩ := t
  have f1 := intL_inj e1
  have f2 := intL_inj e3
  have f3 := intL_inj e4
  simp only at f1 f2 f3
  subst f1; subst f2; subst f3
  rfl
def spMoveEq (C : Addr) : Sp := sp2 fun x y H Q => ∃ s t, Mv C H x s ∧ Mv C H y t ∧ Sm s ∧ Sm t ∧ Q (.bl (decide (s = t))) H
theorem ok_Move_eq (T : Txt K mg a) : FnOk P w K mg base CX0 4 a.f_Move_eq a.d_Move_eq ["self", "other"] (spMoveEq a.C_Move) := by
  refine T.F_Move_eq.ok sc_Move_eq (len2 rfl) (fun cdv A outer s H vs Q E hr h => ?_)
  obtain ⟨_, _, rfl, s, t, ⟨p, dx, rfl, hp⟩, ⟨p2, dx2, rfl, hp2⟩, hb, hb2, q⟩ := h
  refine ⟨_, (pss_one (ps_ret (pe_and (pe_callB call_isi (by rfl) T.z_isinstance (by decide +kernel) (pa_cons (pv 1) (pa_cons (pe_glob (v := .ref a.C_Move) (by rfl) T.g_Move rfl) pa_nil))) (pe_one (pe_cmpR op_eq (pe_callTy (call_strOwn T.s_Move T.sf_Move (ok_Move_str T) (hr.mono (by decide)) T.b_Move_str pass0) (by rfl) T.z_str (by decide +kernel) (pa_cons (pv 0) pa_nil)) (pe_callTy (call_strOwn T.s_Move T.sf_Move (ok_Move_str T) (hr.mono (by decide)) T.b_Move_str pass0) (by rfl) T.z_str (by decide +kernel) (pa_cons (pv 1) pa_nil)) (nomark _)))))), ?_⟩
  have z : decide (V.str (mvText s) = V.str (mvText t)) = decide (s = t) := by
    by_cases h : s = t
    · subst h
      rw [decide_eq_true rfl, decide_eq_true rfl]
    · rw [decide_eq_false h, decide_eq_false]
      intro e
      exact h (mvText_inj (V.str.inj e))
  rw [← z] at q
  refine ⟨_, rfl, _, _, _, _, true, rfl, .own _, T.o_Move.ty hp2, kit_self, true, rfl, iteT ?_⟩
  refine ⟨_, rfl, p, dx, _, rfl, hp, _, rfl, s, ⟨p, dx, rfl, hp⟩, hb, ⟨_, rfl⟩, ?_⟩
  exact ⟨_, rfl, p2, dx2, _, rfl, hp2, _, rfl, t, ⟨p2, dx2, rfl, hp2⟩, hb2, ⟨_, rfl⟩, rfl, q⟩
theorem ne_move {C : Addr} {H : Hp} {x y : V} {s t : T3} {Q : VK} (c : OwnC K C) (h1 : Mv C H x s) (h2 : Mv C H y t) (e : s = t) (hb : Sm s) (q : Q (.bl false) H) :
    rNeOwn K C (spMoveEq C) E0 x y H Q := by
  subst e
  obtain ⟨p, dx, rfl, hp⟩ := h1
  obtain ⟨p2, dx2, rfl, hp2⟩ := h2
  refine ⟨p, dx, _, rfl, hp, c.rgt hp2, _, _, rfl, s, s, ⟨p, dx, rfl, hp⟩, ⟨p2, dx2, rfl, hp2⟩, hb, hb, true, ?_, q⟩
  rw [decide_eq_true rfl]
theorem eq_move {C : Addr} {H : Hp} {x y : V} {s t : T3} {Q : VK} (c : OwnC K C) (h1 : Mv C H x s) (h2 : Mv C H y t) (e : s = t) (hb : Sm s) (q : Q (.bl true) H) :
    rEqOwn K C (spMoveEq C) E0 x y H Q := by
  subst e
  obtain ⟨p, dx, rfl, hp⟩ := h1
  obtain ⟨p2, dx2, rfl, hp2⟩ := h2
  refine ⟨p, dx, _, rfl, hp, c.rgt hp2, _, _, rfl, s, s, ⟨p, dx, rfl, hp⟩, ⟨p2, dx2, rfl, hp2⟩, hb, hb, true, ?_, q⟩
  rw [decide_eq_true rfl]
/-- check_move, check_moves, triple, made_move -/
def spCheck (C : Addr) : Sp := sp1 fun x H Q => ∃ t, Mv C H x t ∧ Q .non H
theorem ok_check_move (T : Txt K mg a) : FnOk P w K mg base CX0 1 a.f_check_move a.d_check_move ["value"] (spCheck a.C_Move) := by
  refine T.F_check_move.ok sc_check_move (len1 rfl) (fun cdv A outer s H vs Q E hr h => ?_)
  obtain ⟨_, rfl, t, ⟨p, dx, rfl, hp⟩, q⟩ := h
  exact ⟨_, (pss_one (ps_if (pt_not (pt_val (pe_callB call_isi (by rfl) T.z_isinstance (by decide +kernel) (pa_cons (pv 0) (pa_cons (pe_glob (v := .ref a.C_Move) (by rfl) T.g_Move rfl) pa_nil)))))
      (pss_one ps_never) pss_nil)), _, rfl, _, _, _, _, true, rfl, .own _, T.o_Move.ty hp, kit_self, true, rfl, iteF q⟩
def spChecks (C : Addr) : Sp := sp2 fun x y H Q => ∃ s t, Mv C H x s ∧ Mv C H y t ∧ Q .non H
theorem ok_check_moves (T : Txt K mg a) : FnOk P w K mg base CX0 2 a.f_check_moves a.d_check_moves ["one", "other"] (spChecks a.C_Move) := by
  refine T.F_check_moves.ok sc_check_moves (len2 rfl) (fun cdv A outer s H vs Q E hr h => ?_)
  obtain ⟨_, _, rfl, s, t, h1, h2, q⟩ := h
  exact ⟨_, (pss_cons (ps_expr (pe_call (ok_check_move T) (hr.mono (by decide)) (by rfl) T.g_check_move T.F_check_move.kp T.b_check_move .nil pass0 (pa_cons (pv 0) pa_nil)))
      (pss_one (ps_expr (pe_call (ok_check_move T) (hr.mono (by decide)) (by rfl) T.g_check_move T.F_check_move.kp T.b_check_move .nil pass0 (pa_cons (pv 1) pa_nil))))), _, rfl, _, rfl, s, h1, _, rfl, _, rfl, t, h2, q⟩
def spTriple (C : Addr) : Sp := sp1 fun x H Q => ∃ M t, Same M H ∧ Mv C M x t ∧ NewT M H t Q
theorem ok_triple (T : Txt K mg a) : FnOk P w K mg base CX0 4 a.f_triple a.d_triple ["one"] (spTriple a.C_Move) := by
  refine T.F_triple.ok sc_triple (len1 rfl) (fun cdv A outer s H vs Q E hr h => ?_)
  obtain ⟨_, rfl, M, t, hM, h1, q⟩ := h
  have k1 := h1.mono hM
  exact ⟨_, (pss_one (ps_ret (pe_tup (pa_cons (pe_prop (pv 0) T.o_Move.cl T.p_Move_east (ok_Move_east T) (hr.mono (by decide)) T.b_Move_east .nil pass0 rfl) (pa_cons (pe_prop (pv 0) T.o_Move.cl T.p_Move_north (ok_Move_north T) (hr.mono (by decide)) T.b_Move_north .nil pass0 rfl) (pa_cons (pe_prop (pv 0) T.o_Move.cl T.p_Move_area (ok_Move_area T) (hr.mono (by decide)) T.b_Move_area .nil pass0 rfl) pa_nil)))))), _, rfl, rd_east k1 ⟨_, rfl, rd_north k1 ⟨_, rfl, rd_area k1 (trip_next hM q)⟩⟩⟩
def spMade (C : Addr) : Sp := sp1 fun x H Q => ∃ M t, Same M H ∧ TripAt M x t ∧ New3 C M H t Q
theorem ok_made_move (T : Txt K mg a) : FnOk P w K mg base CX0 5 a.f_made_move a.d_made_move ["numbers"] (spMade a.C_Move) := by
  refine T.F_made_move.ok sc_made_move (len1 rfl) (fun cdv A outer s H vs Q E hr h => ?_)
  obtain ⟨_, rfl, M, t, hM, h1, q⟩ := h
  have k1 := h1.mono hM
  exact ⟨_, (pss_one (ps_ret (pe_make T.m_Move (ok_Move_init T) (hr.mono (by decide)) (by rfl) T.g_Move T.b_Move_init .nil pass0 (pa_cons (pe_ix ix_tup (pv 0) pe_int (fun _ _ => rfl)) (pa_cons (pe_ix ix_tup (pv 0) pe_int (fun _ _ => rfl)) (pa_cons (pe_ix ix_tup (pv 0) pe_int (fun _ _ => rfl)) pa_nil)))))), _, rfl, rd_t0 k1 ⟨_, rfl, rd_t1 k1 ⟨_, rfl, rd_t2 k1 (mk_move hM q)⟩⟩⟩
theorem ok_l_move (T : Txt K mg a) : FnOk P w K mg base CX0 5 a.f_l_move a.d_l_move ["_law_trip_here"] (spMade a.C_Move) := by
  refine T.F_l_move.ok sc_l_move (len1 rfl) (fun cdv A outer s H vs Q E hr h => ?_)
  obtain ⟨_, rfl, M, t, hM, h1, q⟩ := h
  have k1 := h1.mono hM
  exact ⟨_, (pss_one (ps_ret (pe_make T.m_Move (ok_Move_init T) (hr.mono (by decide)) (by rfl) T.g_Move T.b_Move_init .nil pass0 (pa_cons (pe_ix ix_tup (pv 0) pe_int (fun _ _ => rfl)) (pa_cons (pe_ix ix_tup (pv 0) pe_int (fun _ _ => rfl)) (pa_cons (pe_ix ix_tup (pv 0) pe_int (fun _ _ => rfl)) pa_nil)))))), _, rfl, rd_t0 k1 ⟨_, rfl, rd_t1 k1 ⟨_, rfl, rd_t2 k1 (mk_move hM q)⟩⟩⟩
theorem ok_l_three (T : Txt K mg a) : FnOk P w K mg base CX0 4 a.f_l_three a.d_l_three ["_law_made"] (spTriple a.C_Move) := by
  refine T.F_l_three.ok sc_l_three (len1 rfl) (fun cdv A outer s H vs Q E hr h => ?_)
  obtain ⟨_, rfl, M, t, hM, h1, q⟩ := h
  have k1 := h1.mono hM
  exact ⟨_, (pss_one (ps_ret (pe_tup (pa_cons (pe_prop (pv 0) T.o_Move.cl T.p_Move_east (ok_Move_east T) (hr.mono (by decide)) T.b_Move_east .nil pass0 rfl) (pa_cons (pe_prop (pv 0) T.o_Move.cl T.p_Move_north (ok_Move_north T) (hr.mono (by decide)) T.b_Move_north .nil pass0 rfl) (pa_cons (pe_prop (pv 0) T.o_Move.cl T.p_Move_area (ok_Move_area T) (hr.mono (by decide)) T.b_Move_area .nil pass0 rfl) pa_nil)))))), _, rfl, rd_east k1 ⟨_, rfl, rd_north k1 ⟨_, rfl, rd_area k1 (trip_next hM q)⟩⟩⟩
/-- gaps, sums -/
def gapT (s t : T3) : Int := s.1 * t.2.1 - t.1 * s.2.1
def spGap : Sp := sp2 fun x y H Q => ∃ s t, TripAt H x s ∧ TripAt H y t ∧ Sm s ∧ Sm t ∧ Q (.int (gapT s t)) H
theorem ok_gap_of (T : Txt K mg a) : FnOk P w K mg base CX0 1 a.f_gap_of a.d_gap_of ["one", "other"] spGap := by
  refine T.F_gap_of.ok sc_gap_of (len2 rfl) (fun cdv A outer s H vs Q E hr h => ?_)
  obtain ⟨_, _, rfl, s, t, h1, h2, b1, b2, q⟩ := h
  refine ⟨_, (pss_one (ps_ret (pe_op op_sub (pe_op op_mulW (pe_ix ix_tup (pv 0) pe_int (fun _ _ => rfl)) (pe_ix ix_tup (pv 1) pe_int (fun _ _ => rfl))) (pe_op op_mulW (pe_ix ix_tup (pv 1) pe_int (fun _ _ => rfl)) (pe_ix ix_tup (pv 0) pe_int (fun _ _ => rfl)))))), _, rfl, rd_t0 h1 ⟨_, rfl, rd_t1 h2 ⟨_, _, rfl, rfl, big_mul b1.1 b2.2.1, ?_⟩⟩⟩
  exact ⟨_, rfl, rd_t0 h2 ⟨_, rfl, rd_t1 h1 ⟨_, _, rfl, rfl, big_mul b2.1 b1.2.1, _, _, rfl, rfl, q⟩⟩⟩
def spPutT : Sp := sp2 fun x y H Q => ∃ M s t, Same M H ∧ TripAt M x s ∧ TripAt M y t ∧ Sm s ∧ Sm t ∧ NewT M H (putT s t) Q
theorem ok_l_put (T : Txt K mg a) : FnOk P w K mg base CX0 1 a.f_l_put a.d_l_put ["_law_left", "_law_right_here"] spPutT := by
  refine T.F_l_put.ok sc_l_put (len2 rfl) (fun cdv A outer s H vs Q E hr h => ?_)
  obtain ⟨_, _, rfl, M, s, t, hM, h1, h2, b1, b2, q⟩ := h
  have k1 := h1.mono hM
  have k2 := h2.mono hM
  refine ⟨_, (pss_one (ps_ret (pe_tup (pa_cons (pe_op op_add (pe_ix ix_tup (pv 0) pe_int (fun _ _ => rfl)) (pe_ix ix_tup (pv 1) pe_int (fun _ _ => rfl))) (pa_cons (pe_op op_add (pe_ix ix_tup (pv 0) pe_int (fun _ _ => rfl)) (pe_ix ix_tup (pv 1) pe_int (fun _ _ => rfl))) (pa_cons (pe_op op_add (pe_op op_add (pe_ix ix_tup (pv 0) pe_int (fun _ _ => rfl)) (pe_ix ix_tup (pv 1) pe_int (fun _ _ => rfl))) (pe_op op_mulW (pe_ix ix_tup (pv 0) pe_int (fun _ _ => rfl)) (pe_ix ix_tup (pv 1) pe_int (fun _ _ => rfl)))) pa_nil)))))), _, rfl, rd_t0 k1 ⟨_, rfl, rd_t0 k2 ⟨_, _, rfl, rfl, ?_⟩⟩⟩
  refine ⟨_, rfl, rd_t1 k1 ⟨_, rfl, rd_t1 k2 ⟨_, _, rfl, rfl, ?_⟩⟩⟩
  refine ⟨_, rfl, rd_t2 k1 ⟨_, rfl, rd_t2 k2 ⟨_, _, rfl, rfl, ?_⟩⟩⟩
  refine ⟨_, rfl, rd_t0 k1 ⟨_, rfl, rd_t1 k2 ⟨_, _, rfl, rfl, big_mul b1.1 b2.2.1, _, _, rfl, rfl, ?_⟩⟩⟩
  exact trip_next (t := putT s t) hM q
def spOffT : Sp := sp1 fun x H Q => ∃ M s, Same M H ∧ TripAt M x s ∧ Sm s ∧ NewT M H (offT s) Q
theorem ok_l_off (T : Txt K mg a) : FnOk P w K mg base CX0 1 a.f_l_off a.d_l_off ["_law_trip_here"] spOffT := by
  refine T.F_l_off.ok sc_l_off (len1 rfl) (fun cdv A outer s H vs Q E hr h => ?_)
  obtain ⟨_, rfl, M, s, hM, h1, b1, q⟩ := h
  have k1 := h1.mono hM
  refine ⟨_, (pss_one (ps_ret (pe_tup (pa_cons (pe_op op_sub pe_int (pe_ix ix_tup (pv 0) pe_int (fun _ _ => rfl))) (pa_cons (pe_op op_sub pe_int (pe_ix ix_tup (pv 0) pe_int (fun _ _ => rfl))) (pa_cons (pe_op op_sub (pe_op op_mulW (pe_ix ix_tup (pv 0) pe_int (fun _ _ => rfl)) (pe_ix ix_tup (pv 0) pe_int (fun _ _ => rfl))) (pe_ix ix_tup (pv 0) pe_int (fun _ _ => rfl))) pa_nil)))))), _, rfl, rd_t0 k1 ⟨_, _, rfl, rfl, ?_⟩⟩
  refine ⟨_, rfl, rd_t1 k1 ⟨_, _, rfl, rfl, ?_⟩⟩
  refine ⟨_, rfl, rd_t0 k1 ⟨_, rfl, rd_t1 k1 ⟨_, _, rfl, rfl, big_mul b1.1 b1.2.1, ?_⟩⟩⟩
  refine ⟨_, rfl, rd_t2 k1 ⟨_, _, rfl, rfl, ?_⟩⟩
  exact trip_next (t := offT s) hM q
end

end K64

namespace K64
open PySem PySem.Spec PyProof.Rows L2 Own
section
variable {P : Program} {w : World} {K : PySem.W.Frag} {mg : Str → Option Value} {base : Heap} {a : Ad}
/-! ### bounds -/
def B (n : Nat) (t : T3) : Prop := t.1.natAbs ≤ n ∧ t.2.1.natAbs ≤ n ∧ t.2.2.natAbs ≤ n
theorem B.sm {n : Nat} {t : T3} (h : B n t) (k : Nat.ble n (10 ^ 299) = true) : Sm t := by
  have z : n < 10 ^ 300 := Nat.lt_of_le_of_lt (Nat.le_of_ble_eq_true k) (by decide +kernel)
  exact ⟨Nat.lt_of_le_of_lt h.1 z, Nat.lt_of_le_of_lt h.2.1 z, Nat.lt_of_le_of_lt h.2.2 z⟩
theorem B.up {n m : Nat} {t : T3} (h : B n t) (k : Nat.ble n m = true) : B m t := by
  have z := Nat.le_of_ble_eq_true k
  exact ⟨Nat.le_trans h.1 z, Nat.le_trans h.2.1 z, Nat.le_trans h.2.2 z⟩
theorem na_mul {i j : Int} {n m : Nat} (h : i.natAbs ≤ n) (k : j.natAbs ≤ m) : (i * j).natAbs ≤ n * m := by
  rw [Int.natAbs_mul]
  exact Nat.mul_le_mul h k
theorem B.put {n m : Nat} {s t : T3} (h : B n s) (k : B m t) : B (n + m + n * m) (putT s t) := by
  obtain ⟨h1, h2, h3⟩ := h
  obtain ⟨k1, k2, k3⟩ := k
  have z := na_mul h1 k2
  have p : 0 ≤ n * m := Nat.zero_le _
  refine ⟨?_, ?_, ?_⟩ <;> simp only [putT] <;> omega
theorem B.off {n : Nat} {s : T3} (h : B n s) : B (n + n * n) (offT s) := by
  obtain ⟨h1, h2, h3⟩ := h
  have z := na_mul h1 h2
  refine ⟨?_, ?_, ?_⟩ <;> simp only [offT] <;> omega
theorem lt300 {i : Int} {n : Nat} (h : i.natAbs ≤ n) (k : Nat.ble n (10 ^ 299) = true) : i.natAbs < 10 ^ 300 :=
  Nat.lt_of_le_of_lt (Nat.le_trans h (Nat.le_of_ble_eq_true k)) (by decide +kernel)
/-! ### numbers that two share -/
structure Euc (x y : Int) (l r : T3) : Prop where
  el : l.1 = l.2.1 * x + l.2.2 * y
  er : r.1 = r.2.1 * x + r.2.2 * y
  l0 : 0 ≤ l.1
  r0 : 0 ≤ r.1
  dv : ∀ d : Int, d ∣ l.1 → d ∣ r.1 → d ∣ x ∧ d ∣ y
  b1 : l.1 * (r.2.1.natAbs : Int) + r.1 * (l.2.1.natAbs : Int) ≤ y
  b2 : l.1 * (r.2.2.natAbs : Int) + r.1 * (l.2.2.natAbs : Int) ≤ x
  c1 : (l.2.1.natAbs : Int) ≤ y + 1
  c2 : (l.2.2.natAbs : Int) ≤ x + 1
  c3 : (r.2.1.natAbs : Int) ≤ y + 1
  c4 : (r.2.2.natAbs : Int) ≤ x + 1
theorem Euc.start {x y : Int} (hx : 0 ≤ x) (hy : 0 ≤ y) : Euc x y (x, 1, 0) (y, 0, 1) := by
  refine ⟨?_, ?_, hx, hy, fun d h k => ⟨h, k⟩, ?_, ?_, ?_, ?_, ?_, ?_⟩ <;> simp <;> omega
theorem euc_bd {l0 r0 q b l1 r1 : Int} (hq : 0 ≤ q) (hr : 0 ≤ r0) (h : l0 * (r1.natAbs : Int) + r0 * (l1.natAbs : Int) ≤ b) :
    r0 * ((l1 - q * r1).natAbs : Int) + (l0 - q * r0) * (r1.natAbs : Int) ≤ b := by
  have e : ((l1 - q * r1).natAbs : Int) ≤ (l1.natAbs : Int) + q * (r1.natAbs : Int) := by
    have e1 : (l1 - q * r1).natAbs ≤ l1.natAbs + (q * r1).natAbs := by omega
    rw [Int.natAbs_mul] at e1
    have e2 : (q.natAbs : Int) = q := Int.natAbs_of_nonneg hq
    have e3 : ((q.natAbs * r1.natAbs : Nat) : Int) = q * (r1.natAbs : Int) := by
      rw [Int.natCast_mul, e2]
    omega
  have e4 := Int.mul_le_mul_of_nonneg_left e hr
  have e5 : r0 * ((l1.natAbs : Int) + q * (r1.natAbs : Int)) + (l0 - q * r0) * (r1.natAbs : Int) = l0 * (r1.natAbs : Int) + r0 * (l1.natAbs : Int) := by grind
  omega
theorem le_of_mul {r n b m : Int} (hr : 0 < r) (hn : 0 ≤ n) (hm : 0 ≤ m) (h : r * n + m ≤ b) : n ≤ b := by
  have : 1 * n ≤ r * n := Int.mul_le_mul_of_nonneg_right (by omega) hn
  omega
theorem Euc.step {x y : Int} {l r : T3} (h : Euc x y l r) (hr : 0 < r.1) :
    Euc x y r (l.1 - l.1 / r.1 * r.1, l.2.1 - l.1 / r.1 * r.2.1, l.2.2 - l.1 / r.1 * r.2.2) ∧ l.1 - l.1 / r.1 * r.1 < r.1 ∧ 0 ≤ l.1 - l.1 / r.1 * r.1 := by
  have hq : 0 ≤ l.1 / r.1 := Int.ediv_nonneg h.l0 (Int.le_of_lt hr)
  have em : l.1 - l.1 / r.1 * r.1 = l.1 % r.1 := by
    have := Int.mul_ediv_add_emod l.1 r.1
    have : l.1 / r.1 * r.1 = r.1 * (l.1 / r.1) := Int.mul_comm _ _
    omega
  have m0 : 0 ≤ l.1 % r.1 := Int.emod_nonneg _ (by omega)
  have m1 : l.1 % r.1 < r.1 := Int.emod_lt_of_pos _ hr
  have g1 := euc_bd hq (Int.le_of_lt hr) h.b1
  have g2 := euc_bd hq (Int.le_of_lt hr) h.b2
  have mm : 0 ≤ l.1 - l.1 / r.1 * r.1 := by omega
  refine ⟨⟨h.er, ?_, h.r0, by simp only; omega, ?_, g1, g2, h.c3, h.c4, ?_, ?_⟩, by omega, by omega⟩
  · have := h.el
    have := h.er
    simp only
    grind
  · intro d h1 h2
    refine h.dv d ?_ h1
    have : l.1 = (l.1 - l.1 / r.1 * r.1) + l.1 / r.1 * r.1 := by omega
    rw [this]
    exact Int.dvd_add h2 (Int.dvd_trans h1 (Int.dvd_mul_left _ _))
  · have := le_of_mul hr (by omega) (Int.mul_nonneg mm (by omega)) g1
    simp only
    omega
  · have := le_of_mul hr (by omega) (Int.mul_nonneg mm (by omega)) g2
    simp only
    omega
def spShared : Sp := sp2 fun x y H Q => ∃ i j, x = .int i ∧ y = .int j ∧ 0 ≤ j ∧ Q (.bl (decide (j ∣ i))) H
theorem ok_is_shared (T : Txt K mg a) : FnOk P w K mg base CX0 1 a.f_is_shared a.d_is_shared ["number", "step"] spShared := by
  refine T.F_is_shared.ok sc_is_shared (len2 rfl) (fun cdv A outer s H vs Q E hr h => ?_)
  obtain ⟨_, _, rfl, i, j, rfl, rfl, h0, q⟩ := h
  refine ⟨_, (pss_one (ps_ret (pe_ifExp (pt_cmpR op_eq (pv 1) pe_int (nomark _)) (pe_cmpR op_eq (pv 0) pe_int (nomark _)) (pe_cmpR op_eq (pe_op op_mod (pv 0) (pv 1)) pe_int (nomark _))))), _, rfl, rfl, _, rfl, ite2 (fun e => ?_) (fun e => ?_)⟩
  · have e1 : j = 0 := V.int.inj (of_decide_eq_true e)
    subst e1
    have z : decide ((0 : Int) ∣ i) = decide (V.int i = V.int 0) := by
      by_cases h : i = 0
      · subst h
        decide
      · rw [decide_eq_false (fun z => h (Int.zero_dvd.mp z)), decide_eq_false (fun z => h (V.int.inj z))]
    rw [z] at q
    exact ⟨_, rfl, rfl, q⟩
  · have e1 : ¬ j = 0 := fun z => e (decide_eq_true (congrArg V.int z))
    have z : decide (j ∣ i) = decide (V.int (i % j) = V.int 0) := by
      by_cases h : i % j = 0
      · rw [decide_eq_true (Int.dvd_of_emod_eq_zero h), h]
        rfl
      · rw [decide_eq_false (fun z => h (Int.emod_eq_zero_of_dvd z)), decide_eq_false (fun z => h (V.int.inj z))]
    rw [z] at q
    exact ⟨_, rfl, _, rfl, _, _, rfl, rfl, by omega, rfl, q⟩
def NewE (x y : Int) (M H : Hp) (Q : VK) : Prop := ∀ r M' H' t, Gr M H M' H' → TripAt M' r t → t.1 = t.2.1 * x + t.2.2 * y → 0 ≤ t.1 → t.1 ∣ x → t.1 ∣ y → (t.2.1.natAbs : Int) ≤ y + 1 → (t.2.2.natAbs : Int) ≤ x + 1 → Q r H'
def spCombined : Sp := sp2 fun x y H Q => ∃ M i j, x = .int i ∧ y = .int j ∧ Same M H ∧ 0 ≤ i ∧ 0 ≤ j ∧ i.natAbs ≤ 10 ^ 200 ∧ j.natAbs ≤ 10 ^ 200 ∧ NewE i j M H Q
theorem ok_combined (T : Txt K mg a) : FnOk P w K mg base CX0 1 a.f_combined a.d_combined ["one", "other"] spCombined := by
  refine T.F_combined.ok sc_combined (len2 rfl) (fun cdv A outer s H vs Q E hr h => ?_)
  obtain ⟨_, _, rfl, M, i, j, rfl, rfl, hM, hi, hj, bi, bj, q⟩ := h
  refine ⟨_, (pss_cons (ps_par (by rfl) sc_combined.nd (i := 2) (j := 3) rfl rfl (by decide) rfl rfl (pa_cons (pe_tup (pa_cons (pv 0) (pa_cons pe_int (pa_cons pe_int pa_nil)))) (pa_cons (pe_tup (pa_cons (pv 1) (pa_cons pe_int (pa_cons pe_int pa_nil)))) pa_nil)) (by rfl))
      (pss_cons (ps_while PassesOwn.never (pt_cmpR op_gt (pe_ix ix_tup (pv 3) pe_int (fun _ _ => rfl)) pe_int (nomark _))
      (pss_cons (ps_set (i := 4) sc_combined.nd rfl (.inl rfl) (pe_op op_fdivW (pe_ix ix_tup (pv 2) pe_int (fun _ _ => rfl)) (pe_ix ix_tup (pv 3) pe_int (fun _ _ => rfl))))
      (pss_one (ps_par (by rfl) sc_combined.nd (i := 2) (j := 3) rfl rfl (by decide) rfl rfl (pa_cons (pv 3) (pa_cons (pe_tup (pa_cons (pe_op op_sub (pe_ix ix_tup (pv 2) pe_int (fun _ _ => rfl)) (pe_op op_mulW (pv 4) (pe_ix ix_tup (pv 3) pe_int (fun _ _ => rfl)))) (pa_cons (pe_op op_sub (pe_ix ix_tup (pv 2) pe_int (fun _ _ => rfl)) (pe_op op_mulW (pv 4) (pe_ix ix_tup (pv 3) pe_int (fun _ _ => rfl)))) (pa_cons (pe_op op_sub (pe_ix ix_tup (pv 2) pe_int (fun _ _ => rfl)) (pe_op op_mulW (pv 4) (pe_ix ix_tup (pv 3) pe_int (fun _ _ => rfl)))) pa_nil)))) pa_nil)) (by rfl)))))
      (pss_one (ps_ret (pv 2))))), _, rfl, ?_⟩
  refine ⟨szL rfl, fun p1 pn1 => ?_⟩
  generalize e1 : upd H p1 _ = H1
  obtain ⟨M1, g1, hp1⟩ := new_of e1 hM pn1
  have k1 : TripAt M1 (.ref p1) (i, 1, 0) := ⟨p1, rfl, hp1⟩
  refine ⟨_, rfl, ?_⟩
  refine ⟨szL rfl, fun p2 pn2 => ?_⟩
  generalize e2 : upd H1 p2 _ = H2
  obtain ⟨M2, g2, hp2⟩ := new_of e2 g1.inn pn2
  have k2 : TripAt M2 (.ref p2) (j, 0, 1) := ⟨p2, rfl, hp2⟩
  refine ⟨_, _, rfl, ?_⟩
  have bs : ∀ z : Int, (z.natAbs : Int) ≤ i + 1 ∨ (z.natAbs : Int) ≤ j + 1 → z.natAbs < 10 ^ 300 := by
    intro z hz
    have : z.natAbs ≤ 10 ^ 200 + 1 := by omega
    exact Nat.lt_of_le_of_lt this (by decide +kernel)
  refine ⟨fun m σ H' => ∃ M' l r xl xr y, σ = [some (.int i), some (.int j), some xl, some xr, y] ∧ Gr M H M' H' ∧ TripAt M' xl l ∧ TripAt M' xr r ∧ Euc i j l r ∧ l.1 ≤ 10 ^ 200 ∧ r.1 ≤ 10 ^ 200 ∧ m = r.1.toNat,
    ⟨_, M2, _, _, .ref p1, .ref p2, none, rfl, g1.trans g2, k1.mono g2.ex, k2, Euc.start hi hj, by simp only; omega, by simp only; omega, rfl⟩, ?_⟩
  rintro m σ H' ⟨M', l, r, xl, xr, y, rfl, g, kl, kr, eu, bl, br, rfl⟩
  have kl' := kl.mono g.inn
  have kr' := kr.mono g.inn
  refine ⟨_, rfl, rd_t0 kr' ⟨_, _, rfl, rfl, _, rfl, ite2 (fun e => ?_) (fun e => ?_)⟩⟩
  · have e1 : 0 < r.1 := of_decide_eq_true e
    have q0 : 0 ≤ l.1 / r.1 := Int.ediv_nonneg eu.l0 (Int.le_of_lt e1)
    have q1 : l.1 / r.1 ≤ l.1 := Int.ediv_le_self _ eu.l0
    have qb : (l.1 / r.1).natAbs < 10 ^ 300 := Nat.lt_of_le_of_lt (show (l.1 / r.1).natAbs ≤ 10 ^ 200 by omega) (by decide +kernel)
    have rb : r.1.natAbs < 10 ^ 300 := Nat.lt_of_le_of_lt (show r.1.natAbs ≤ 10 ^ 200 by omega) (by decide +kernel)
    obtain ⟨eu2, lt, nn⟩ := eu.step e1
    refine ⟨fun σ' H' => ∃ m', m' < r.1.toNat ∧ ∃ M' l r xl xr y, σ' = [some (.int i), some (.int j), some xl, some xr, y] ∧ Gr M H M' H' ∧ TripAt M' xl l ∧ TripAt M' xr r ∧ Euc i j l r ∧ l.1 ≤ 10 ^ 200 ∧ r.1 ≤ 10 ^ 200 ∧ m' = r.1.toNat, fun σ' H' z => z, ?_⟩
    refine ⟨_, rfl, rd_t0 kl' ⟨_, rfl, rd_t0 kr' ⟨_, _, rfl, rfl, big_div e1 rb, ?_⟩⟩⟩
    refine ⟨_, rfl, ?_⟩
    refine ⟨_, rfl, rd_t0 kl' ⟨_, rfl, _, rfl, rd_t0 kr' ⟨_, _, rfl, rfl, big_mul qb rb, _, _, rfl, rfl, ?_⟩⟩⟩
    refine ⟨_, rfl, rd_t1 kl' ⟨_, rfl, _, rfl, rd_t1 kr' ⟨_, _, rfl, rfl, big_mul qb (bs _ (.inr eu.c3)), _, _, rfl, rfl, ?_⟩⟩⟩
    refine ⟨_, rfl, rd_t2 kl' ⟨_, rfl, _, rfl, rd_t2 kr' ⟨_, _, rfl, rfl, big_mul qb (bs _ (.inl eu.c4)), _, _, rfl, rfl, ?_⟩⟩⟩
    refine ⟨szL rfl, fun p3 pn3 => ?_⟩
    generalize e3 : upd H' p3 _ = H3
    obtain ⟨M3, g3, hp3⟩ := new_of e3 g.inn pn3
    have k3 : TripAt M3 (.ref p3) (l.1 - l.1 / r.1 * r.1, l.2.1 - l.1 / r.1 * r.2.1, l.2.2 - l.1 / r.1 * r.2.2) := ⟨p3, rfl, hp3⟩
    exact ⟨_, _, rfl, _, (by omega), M3, r, _, xr, .ref p3, _, rfl, g.trans g3, kr.mono g3.ex, k3, eu2, br, by simp only; omega, rfl⟩
  · have e1 : ¬ 0 < r.1 := fun z => e (decide_eq_true z)
    have e2 : r.1 = 0 := by have := eu.r0; omega
    have d := eu.dv l.1 (Int.dvd_refl _) (by rw [e2]; exact Int.dvd_zero _)
    exact ⟨_, rfl, q xl M' H' l g kl eu.el eu.l0 d.1 d.2 eu.c1 eu.c2⟩
/-! ### what lies between -/
def betT (c s : T3) : T3 := putT (putT c s) (offT c)
theorem bet_eq (c s : T3) : betT c s = (s.1, s.2.1, s.2.2 + c.1 * s.2.1 - s.1 * c.2.1) := by
  simp only [betT, putT, offT, Prod.mk.injEq]
  refine ⟨by omega, by omega, by grind⟩
def PairT (M : Hp) (x : V) (i j : Int) : Prop := ∃ p, x = .ref p ∧ M p = some (.tup [.int i, .int j])
theorem PairT.mono {M M1 : Hp} {x : V} {i j : Int} (h : PairT M x i j) (e : Same M M1) : PairT M1 x i j := by
  obtain ⟨p, r, h⟩ := h
  exact ⟨p, r, e _ _ h⟩
theorem PairT.dp {M : Hp} {x : V} {i j : Int} (h : PairT M x i j) : Dp K M x (.tuple [.int i, .int j]) := by
  obtain ⟨p, rfl, h⟩ := h
  exact .tup (SqT.of h) (.cons (.int _) (.cons (.int _) .nil))
theorem eqv_2 (i j k l : Int) : PyData.eqv (.tuple [.int i, .int j]) (.tuple [.int k, .int l]) = decide (i = k ∧ j = l) := by
  have e : PyData.eqv (.tuple [.int i, .int j]) (.tuple [.int k, .int l]) = ((i == k) && ((j == l) && true)) := rfl
  rw [e]
  by_cases h1 : i = k
  · by_cases h2 : j = l
    · simp [h1, h2]
    · simp [h2]
  · simp [h1]
theorem sl2 {M H : Hp} {x : V} {t : T3} {Q : VK} (hM : Same M H) (h : TripAt M x t) (q : ∀ r M' H', Gr M H M' H' → PairT M' r t.1 t.2.1 → Q r H') : rSlT K x none (some 2) H Q := by
  obtain ⟨p, rfl, h⟩ := h
  refine ⟨p, _, rfl, SqT.of (hM _ _ h), (by show ¬ (HT.sIx 3 0 none = 0 ∧ HT.sIx 3 3 (some 2) = 3); decide), fun r hr => ?_⟩
  exact q _ _ _ (gr_new hM hr) ⟨r, rfl, upd_same⟩
/-! ### a move by which two are alike -/
def OptT (M : Hp) (x : V) : Option T3 → Prop
  | none => x = .non
  | some t => TripAt M x t
def OptM (C : Addr) (M : Hp) (x : V) : Option T3 → Prop
  | none => x = .non
  | some t => Mv C M x t
theorem OptM.mono {C : Addr} {M M1 : Hp} {x : V} : ∀ {o : Option T3}, OptM C M x o → Same M M1 → OptM C M1 x o
  | none, h, _ => h
  | some _, h, e => Mv.mono h e
structure Lnk (n : Nat) (s t : T3) (o : Option T3) : Prop where
  yes : ∀ c, o = some c → betT c s = t ∧ B (2 * n * (n + 1)) c
  no : o = none → ∀ c, betT c s ≠ t
def LinkN (n : Nat) (s t : T3) (M H : Hp) (Q : VK) : Prop := ∀ r M' H' o, Gr M H M' H' → OptT M' r o → Lnk n s t o → Q r H'
def spLink : Sp := sp2 fun x y H Q => ∃ M n s t, Same M H ∧ TripAt M x s ∧ TripAt M y t ∧ B n s ∧ B n t ∧ n ≤ 10 ^ 120 ∧ LinkN n s t M H Q
theorem abs_abs (i : Int) : (if i < 0 then -i else i) = (i.natAbs : Int) := by split <;> omega
theorem link_math {x y gap g u v many : Int} (eg : g = u * (y.natAbs : Int) + v * (x.natAbs : Int)) (em : gap = many * g) :
    (if 0 < y then many * u else 0 - many * u) * y - x * (if 0 < x then 0 - many * v else many * v) = gap := by
  have hy : (y.natAbs : Int) = if 0 < y then y else 0 - y := by split <;> omega
  have hx : (x.natAbs : Int) = if 0 < x then x else 0 - x := by split <;> omega
  rw [em, eg, hy, hx]
  split <;> split <;> grind
def cT (x y many u v : Int) : T3 := (if 0 < y then many * u else 0 - many * u, if 0 < x then 0 - many * v else many * v, 0)
theorem ok_link_of_moves (T : Txt K mg a) : FnOk P w K mg base CX0 2 a.f_link_of_moves a.d_link_of_moves ["one", "other"] spLink := by
  refine T.F_link_of_moves.ok sc_link_of_moves (len2 rfl) (fun cdv A outer s H vs Q E hr h => ?_)
  obtain ⟨_, _, rfl, M, n, s, t, hM, h1, h2, b1, b2, hn, q⟩ := h
  refine ⟨_, (pss_cons (ps_if (pt_cmpR (op_neD (hr.mono (Nat.zero_le _)).units) (pe_slice sl_tup (pv 0) po_none (po_some pe_int)) (pe_slice sl_tup (pv 1) po_none (po_some pe_int)) (nomark _))
      (pss_one (ps_ret pe_non)) pss_nil)
      (pss_cons (ps_par3 (by rfl) sc_link_of_moves.nd (i := 2) (j := 3) (l := 4) rfl rfl rfl (by decide) (by decide) (by decide) rfl rfl rfl (pa_cons (pe_ix ix_tup (pv 0) pe_int (fun _ _ => rfl)) (pa_cons (pe_ix ix_tup (pv 0) pe_int (fun _ _ => rfl)) (pa_cons (pe_op op_sub (pe_ix ix_tup (pv 1) pe_int (fun _ _ => rfl)) (pe_ix ix_tup (pv 0) pe_int (fun _ _ => rfl))) pa_nil))) (by rfl))
      (pss_cons (ps_asg (pe_call (ok_combined T) (hr.mono (by decide)) (by rfl) T.g_combined T.F_combined.kp T.b_combined .nil pass0 (pa_cons (pe_callB call_abs (by rfl) T.z_abs (by decide +kernel) (pa_cons (pv 3) pa_nil)) (pa_cons (pe_callB call_abs (by rfl) T.z_abs (by decide +kernel) (pa_cons (pv 2) pa_nil)) pa_nil))) (pg_tup (by rfl) (pgs_cons (pg_name (i := 5) sc_link_of_moves.nd rfl (.inl rfl)) (pgs_cons (pg_name (i := 6) sc_link_of_moves.nd rfl (.inl rfl)) (pgs_cons (pg_name (i := 7) sc_link_of_moves.nd rfl (.inl rfl)) pgs_nil)))))
      (pss_cons (ps_if (pt_not (pt_val (pe_call (ok_is_shared T) (hr.mono (by decide)) (by rfl) T.g_is_shared T.F_is_shared.kp T.b_is_shared .nil pass0 (pa_cons (pv 4) (pa_cons (pv 5) pa_nil)))))
      (pss_one (ps_ret pe_non)) pss_nil)
      (pss_cons (ps_set (i := 8) sc_link_of_moves.nd rfl (.inl rfl) (pe_ifExp (pt_cmpR op_gt (pv 5) pe_int (nomark _)) (pe_op op_fdivW (pv 4) (pv 5)) pe_int))
      (pss_one (ps_ret (pe_tup (pa_cons (pe_ifExp (pt_cmpR op_gt (pv 3) pe_int (nomark _)) (pe_op op_mulW (pv 8) (pv 6)) (pe_op op_sub pe_int (pe_op op_mulW (pv 8) (pv 6)))) (pa_cons (pe_ifExp (pt_cmpR op_gt (pv 2) pe_int (nomark _)) (pe_op op_sub pe_int (pe_op op_mulW (pv 8) (pv 7))) (pe_op op_mulW (pv 8) (pv 7))) (pa_cons pe_int pa_nil))))))))))), ?_⟩
  refine ⟨_, rfl, 2, rfl, sl2 hM h1 fun r1 M1 H1 g1 k1 => ?_⟩
  refine ⟨_, rfl, 2, rfl, sl2 g1.inn (h2.mono g1.ex) fun r2 M2 H2 g2 k2 => ?_⟩
  refine ⟨_, _, ((k1.mono g2.ex).mono g2.inn).dp, (k2.mono g2.inn).dp, rfl, rfl, _, rfl, ?_⟩
  rw [eqv_2]
  replace g1 := g1.trans g2
  refine ite2 (fun e => ?_) (fun e => ?_)
  · have e1 : ¬ (s.1 = t.1 ∧ s.2.1 = t.2.1) := fun z => by rw [decide_eq_true z] at e; cases e
    refine q _ M2 H2 none g1 rfl ⟨fun _ z => (nomatch z), fun _ c z => ?_⟩
    rw [bet_eq] at z
    apply e1
    rw [← z]
    exact ⟨rfl, rfl⟩
  · have e1 : s.1 = t.1 ∧ s.2.1 = t.2.1 := Classical.byContradiction fun z => e (by rw [decide_eq_false z]; rfl)
    replace h1 := h1.mono g1.ex
    replace h2 := h2.mono g1.ex
    have k1 := h1.mono g1.inn
    have k2 := h2.mono g1.inn
    have m1 := b1
    have m2 := b2
    obtain ⟨x, y, z⟩ := s
    obtain ⟨x', y', z'⟩ := t
    obtain ⟨b11, b12, b13⟩ := b1
    obtain ⟨b21, b22, b23⟩ := b2
    simp only at b11 b12 b13 b21 b22 b23 e1
    refine ⟨_, rfl, rd_t0 k1 ⟨_, rfl, rd_t1 k1 ⟨_, rfl, rd_t2 k2 ⟨_, rfl, rd_t2 k1 ⟨_, _, rfl, rfl, ?_⟩⟩⟩⟩⟩
    refine ⟨_, _, _, rfl, ?_⟩
    refine ⟨_, rfl, _, rfl, _, rfl, _, rfl, ?_⟩
    rw [abs_abs, abs_abs]
    refine ⟨_, _, rfl, M2, _, _, rfl, rfl, g1.inn, Int.natCast_nonneg _, Int.natCast_nonneg _, ?_, ?_, fun r3 M3 H3 ⟨g, u, v⟩ g3 k3 eg g0 d1 d2 c1 c2 => ?_⟩
    · rw [Int.natAbs_natCast]; exact Nat.le_trans b12 (Nat.le_trans hn (by decide +kernel))
    · rw [Int.natAbs_natCast]; exact Nat.le_trans b11 (Nat.le_trans hn (by decide +kernel))
    simp only at eg g0 d1 d2 c1 c2
    obtain ⟨p3, rfl, hp3⟩ := k3
    refine ⟨p3, _, rfl, SqT.of (g3.inn _ _ hp3), rfl, _, _, rfl, _, _, rfl, _, _, rfl, rfl, ?_⟩
    replace g1 := g1.trans g3
    refine ⟨_, rfl, _, rfl, _, _, rfl, _, _, rfl, rfl, g0, _, rfl, ?_⟩
    refine ite2 (fun e => ?_) (fun e => ?_)
    · have e2 : ¬ g ∣ z' - z := fun k => by rw [decide_eq_true k] at e; cases e
      refine q _ M3 H3 none g1 rfl ⟨fun _ k => (nomatch k), fun _ c k => e2 ?_⟩
      rw [bet_eq] at k
      simp only [Prod.mk.injEq] at k
      have : z' - z = c.1 * y - x * c.2.1 := by omega
      rw [this]
      exact Int.dvd_sub (Int.dvd_trans (Int.dvd_natAbs.mp d1) (Int.dvd_mul_left _ _)) (Int.dvd_trans (Int.dvd_natAbs.mp d2) (Int.dvd_mul_right _ _))
    · have e2 : g ∣ z' - z := Classical.byContradiction fun k => e (by rw [decide_eq_false k]; rfl)
      have gapb : (z' - z).natAbs ≤ 2 * n := by omega
      have gb : g.natAbs < 10 ^ 300 := by
        by_cases yz : y = 0
        · by_cases xz : x = 0
          · subst yz; subst xz
            have : g = 0 := by rw [eg]; simp
            rw [this]; decide +kernel
          · have := Int.le_of_dvd (by omega) d2
            exact Nat.lt_of_le_of_lt (show g.natAbs ≤ 10 ^ 120 by omega) (by decide +kernel)
        · have := Int.le_of_dvd (by omega) d1
          exact Nat.lt_of_le_of_lt (show g.natAbs ≤ 10 ^ 120 by omega) (by decide +kernel)
      have leaf : ∀ many : Int, z' - z = many * g → many.natAbs ≤ 2 * n → ∀ c : T3, c = cT x y many u v →
          ∀ p, H3 p = none → Q (.ref p) (upd H3 p (.tup [.int c.1, .int c.2.1, .int c.2.2])) := by
        intro many em bm c ec p hp
        refine q _ _ _ (some c) (g1.trans (gr_new g1.inn hp)) ⟨p, rfl, upd_same⟩ ⟨fun c' e' => ?_, fun e' => (nomatch e')⟩
        cases e'
        subst ec
        refine ⟨?_, ?_⟩
        · rw [bet_eq]
          have z1 := link_math (x := x) (y := y) (u := u) (v := v) eg em
          simp only [cT, Prod.mk.injEq]
          exact ⟨e1.1, e1.2, by omega⟩
        · have u1 := na_mul bm (show u.natAbs ≤ n + 1 by omega)
          have v1 := na_mul bm (show v.natAbs ≤ n + 1 by omega)
          refine ⟨?_, ?_, Nat.zero_le _⟩ <;> simp only [cT] <;> split <;> omega
      have ub : u.natAbs < 10 ^ 300 := Nat.lt_of_le_of_lt (show u.natAbs ≤ 10 ^ 120 + 1 by omega) (by decide +kernel)
      have vb : v.natAbs < 10 ^ 300 := Nat.lt_of_le_of_lt (show v.natAbs ≤ 10 ^ 120 + 1 by omega) (by decide +kernel)
      have mb : ∀ many : Int, many.natAbs ≤ 2 * n → many.natAbs < 10 ^ 300 := fun many h => Nat.lt_of_le_of_lt (show many.natAbs ≤ 2 * 10 ^ 120 by omega) (by decide +kernel)
      refine ⟨_, rfl, _, _, rfl, rfl, _, rfl, ite2 (fun e3 => ?a) (fun e3 => ?b)⟩
      case' a =>
        have e4 : 0 < g := of_decide_eq_true e3
        refine ⟨_, rfl, _, rfl, _, _, rfl, rfl, big_div e4 gb, ?_⟩
        let many : Int := (z' - z) / g
        have em1 : z' - z = many * g := by show z' - z = (z' - z) / g * g; rw [Int.ediv_mul_cancel e2]
        have bm : many.natAbs ≤ 2 * n := by
          refine Nat.le_trans ?_ gapb
          rw [em1, Int.natAbs_mul]
          exact Nat.le_mul_of_pos_right _ (by omega)
      case' b =>
        have e4 : g = 0 := by
          have : ¬ 0 < g := fun z => e3 (decide_eq_true z)
          omega
        let many : Int := 0
        have em1 : z' - z = many * g := by
          rw [e4] at e2 ⊢
          rw [Int.zero_dvd.mp e2, Int.mul_zero]
        have bm : many.natAbs ≤ 2 * n := Nat.zero_le _
      all_goals
        refine ⟨_, rfl, _, _, rfl, rfl, _, rfl, ite2 (fun f1 => ?_) (fun f1 => ?_)⟩
        · have f2 : 0 < y := of_decide_eq_true f1
          refine ⟨_, rfl, _, rfl, _, _, rfl, rfl, big_mul (mb _ bm) ub, ?_⟩
          refine ⟨_, rfl, _, _, rfl, rfl, _, rfl, ite2 (fun f3 => ?_) (fun f3 => ?_)⟩
          · have f4 : 0 < x := of_decide_eq_true f3
            exact ⟨_, rfl, _, rfl, _, _, rfl, rfl, big_mul (mb _ bm) vb, _, _, rfl, rfl, szL rfl, leaf many em1 bm (many * u, 0 - many * v, 0) (by simp only [cT, if_pos f2, if_pos f4])⟩
          · have f4 : ¬ 0 < x := fun z => f3 (decide_eq_true z)
            exact ⟨_, rfl, _, rfl, _, _, rfl, rfl, big_mul (mb _ bm) vb, szL rfl, leaf many em1 bm (many * u, many * v, 0) (by simp only [cT, if_pos f2, if_neg f4])⟩
        · have f2 : ¬ 0 < y := fun z => f1 (decide_eq_true z)
          refine ⟨_, rfl, _, rfl, _, _, rfl, rfl, big_mul (mb _ bm) ub, _, _, rfl, rfl, ?_⟩
          refine ⟨_, rfl, _, _, rfl, rfl, _, rfl, ite2 (fun f3 => ?_) (fun f3 => ?_)⟩
          · have f4 : 0 < x := of_decide_eq_true f3
            exact ⟨_, rfl, _, rfl, _, _, rfl, rfl, big_mul (mb _ bm) vb, _, _, rfl, rfl, szL rfl, leaf many em1 bm (0 - many * u, 0 - many * v, 0) (by simp only [cT, if_neg f2, if_pos f4])⟩
          · have f4 : ¬ 0 < x := fun z => f3 (decide_eq_true z)
            exact ⟨_, rfl, _, rfl, _, _, rfl, rfl, big_mul (mb _ bm) vb, szL rfl, leaf many em1 bm (0 - many * u, many * v, 0) (by simp only [cT, if_neg f2, if_neg f4])⟩
/-- roots -/
def triI (m : Int) : Int := m * (m - 1) / 2
def leftT (s : T3) (m : Int) : Int := s.2.2 - triI m * (s.1 / m) * (s.2.1 / m)
def rootT (s : T3) (m : Int) : Option T3 := if s.1 % m ≠ 0 then none else if s.2.1 % m ≠ 0 then none else if leftT s m % m = 0 then some (s.1 / m, s.2.1 / m, leftT s m / m) else none
def OptNewT (M H : Hp) (o : Option T3) (Q : VK) : Prop := ∀ r M' H', Gr M H M' H' → OptT M' r o → Q r H'
def OptNewM (C : Addr) (M H : Hp) (o : Option T3) (Q : VK) : Prop := ∀ r M' H', Gr M H M' H' → OptM C M' r o → Q r H'
def spRootT : Sp := sp2 fun x y H Q => ∃ M s m, Same M H ∧ TripAt M x s ∧ y = .int m ∧ 1 ≤ m ∧ m.natAbs ≤ 10 ^ 30 ∧ B (10 ^ 100) s ∧ OptNewT M H (rootT s m) Q
theorem div_le (i m : Int) (hm : 1 ≤ m) : (i / m).natAbs ≤ i.natAbs := by
  have h1 := Int.natAbs_ediv_le_natAbs i m
  exact h1
theorem ok_root_of_move (T : Txt K mg a) : FnOk P w K mg base CX0 1 a.f_root_of_move a.d_root_of_move ["one", "degree"] spRootT := by
  refine T.F_root_of_move.ok sc_root_of_move (len2 rfl) (fun cdv A outer s H vs Q E hr h => ?_)
  obtain ⟨_, _, rfl, M, s, m, hM, h1, rfl, hm, bm, b1, q⟩ := h
  have k1 := h1.mono hM
  have mp : 0 < m := by omega
  have mb : m.natAbs < 10 ^ 300 := Nat.lt_of_le_of_lt bm (by decide +kernel)
  refine ⟨_, (pss_cons (ps_if (PW.pt (pw_or (pt_cmpR op_ne (pe_op op_mod (pe_ix ix_tup (pv 0) pe_int (fun _ _ => rfl)) (pv 1)) pe_int (nomark _)) (pw_or1 (pt_cmpR op_ne (pe_op op_mod (pe_ix ix_tup (pv 0) pe_int (fun _ _ => rfl)) (pv 1)) pe_int (nomark _)))))
      (pss_one (ps_ret pe_non)) pss_nil)
      (pss_cons (ps_par (by rfl) sc_root_of_move.nd (i := 2) (j := 3) rfl rfl (by decide) rfl rfl (pa_cons (pe_op op_fdivW (pe_ix ix_tup (pv 0) pe_int (fun _ _ => rfl)) (pv 1)) (pa_cons (pe_op op_fdivW (pe_ix ix_tup (pv 0) pe_int (fun _ _ => rfl)) (pv 1)) pa_nil)) (by rfl))
      (pss_cons (ps_set (i := 4) sc_root_of_move.nd rfl (.inl rfl) (pe_op op_sub (pe_ix ix_tup (pv 0) pe_int (fun _ _ => rfl)) (pe_op op_mulW (pe_op op_mulW (pe_op op_fdivW (pe_op op_mulW (pv 1) (pe_op op_sub (pv 1) pe_int)) pe_int) (pv 2)) (pv 3))))
      (pss_one (ps_ret (pe_ifExp (pt_cmpR op_eq (pe_op op_mod (pv 4) (pv 1)) pe_int (nomark _)) (pe_tup (pa_cons (pv 2) (pa_cons (pv 3) (pa_cons (pe_op op_fdivW (pv 4) (pv 1)) pa_nil)))) pe_non)))))), ?_⟩
  refine ⟨_, rfl, rd_t0 k1 ⟨_, rfl, _, _, rfl, rfl, mp, rfl, _, rfl, ite2 (fun e => ?_) (fun e => ?_)⟩⟩
  · have e1 : s.1 % m ≠ 0 := fun z => by
      have e' : (!decide (V.int (s.1 % m) = V.int 0)) = true := e
      rw [z] at e'
      simp at e'
    refine q _ M H (Gr.refl hM) ?_
    unfold rootT
    rw [if_pos e1]
    rfl
  have e1 : ¬ s.1 % m ≠ 0 := fun z => e (by simp [z])
  refine ⟨_, rfl, rd_t1 k1 ⟨_, rfl, _, _, rfl, rfl, mp, rfl, _, rfl, ite2 (fun e => ?_) (fun e => ?_)⟩⟩
  · have e2 : s.2.1 % m ≠ 0 := fun z => by
      have e' : (!decide (V.int (s.2.1 % m) = V.int 0)) = true := e
      rw [z] at e'
      simp at e'
    refine q _ M H (Gr.refl hM) ?_
    unfold rootT
    rw [if_neg e1, if_pos e2]
    rfl
  have e2 : ¬ s.2.1 % m ≠ 0 := fun z => e (by simp [z])
  refine ⟨_, rfl, rd_t0 k1 ⟨_, rfl, _, _, rfl, rfl, big_div mp mb, ?_⟩⟩
  refine ⟨_, rfl, rd_t1 k1 ⟨_, rfl, _, _, rfl, rfl, big_div mp mb, ?_⟩⟩
  refine ⟨_, _, rfl, ?_⟩
  have d1 := Nat.le_trans (div_le s.1 m hm) b1.1
  have d2 := Nat.le_trans (div_le s.2.1 m hm) b1.2.1
  have t1 : (m * (m - 1)).natAbs ≤ 10 ^ 30 * 10 ^ 30 := na_mul bm (by omega)
  have t2 : (m * (m - 1) / 2).natAbs ≤ 10 ^ 30 * 10 ^ 30 := Nat.le_trans (div_le _ 2 (by decide)) t1
  have t3 := na_mul t2 d1
  refine ⟨_, rfl, rd_t2 k1 ⟨_, rfl, _, rfl, _, _, rfl, rfl, ?_⟩⟩
  refine ⟨_, _, rfl, rfl, big_mul mb (lt300 (show (m - 1).natAbs ≤ 10 ^ 30 by omega) (by decide +kernel)), ?_⟩
  refine ⟨_, _, rfl, rfl, big_div (by decide) (by decide +kernel), ?_⟩
  refine ⟨_, rfl, _, _, rfl, rfl, big_mul (lt300 t2 (by decide +kernel)) (lt300 d1 (by decide +kernel)), ?_⟩
  refine ⟨_, rfl, _, _, rfl, rfl, big_mul (lt300 t3 (by decide +kernel)) (lt300 d2 (by decide +kernel)), ?_⟩
  refine ⟨_, _, rfl, rfl, ?_⟩
  refine ⟨_, rfl, _, rfl, _, _, rfl, rfl, mp, rfl, _, rfl, ite2 (fun e => ?_) (fun e => ?_)⟩
  · have e3 : leftT s m % m = 0 := V.int.inj (of_decide_eq_true e)
    refine ⟨_, rfl, _, rfl, _, rfl, _, rfl, _, _, rfl, rfl, big_div mp mb, ?_⟩
    refine trip_next (t := (s.1 / m, s.2.1 / m, leftT s m / m)) hM fun r M' H' g k => q r M' H' g ?_
    unfold rootT
    rw [if_neg e1, if_neg e2, if_pos e3]
    exact k
  · have e3 : ¬ leftT s m % m = 0 := fun z => e (decide_eq_true (congrArg V.int z))
    refine q _ M H (Gr.refl hM) ?_
    unfold rootT
    rw [if_neg e1, if_neg e2, if_neg e3]
    rfl
theorem opt_non {M : Hp} {r : V} {o : Option T3} (h : OptT M r o) : decide (r = V.non) = o.isNone := by
  cases o with
  | none => rw [show r = .non from h]; rfl
  | some t =>
    obtain ⟨p, rfl, _⟩ := (show TripAt M r t from h)
    rfl
theorem optM_non {C : Addr} {M : Hp} {r : V} {o : Option T3} (h : OptM C M r o) : decide (r = V.non) = o.isNone := by
  cases o with
  | none => rw [show r = .non from h]; rfl
  | some t =>
    obtain ⟨p, dx, rfl, _⟩ := (show Mv C M r t from h)
    rfl
/-- the functions of the interface -/
def spRootM (C : Addr) : Sp := sp2 fun x y H Q => ∃ M s m, Same M H ∧ Mv C M x s ∧ y = .int m ∧ 1 ≤ m ∧ m.natAbs ≤ 10 ^ 30 ∧ B (10 ^ 100) s ∧ OptNewM C M H (rootT s m) Q
theorem ok_move_root (T : Txt K mg a) : FnOk P w K mg base CX0 7 a.f_move_root a.d_move_root ["one", "degree"] (spRootM a.C_Move) := by
  refine T.F_move_root.ok sc_move_root (len2 rfl) (fun cdv A outer s H vs Q E hr h => ?_)
  obtain ⟨_, _, rfl, M, s, m, hM, h1, rfl, hm, bm, b1, q⟩ := h
  have k1 := h1.mono hM
  have m0 : ¬ m < 1 := by omega
  refine ⟨_, (pss_cons (ps_expr (pe_call (ok_check_move T) (hr.mono (by decide)) (by rfl) T.g_check_move T.F_check_move.kp T.b_check_move .nil pass0 (pa_cons (pv 0) pa_nil)))
      (pss_cons (ps_if (PW.pt (pw_or (pt_not (pt_val (pe_call (ok_is_integer T) (hr.mono (by decide)) (by rfl) T.g_is_integer T.F_is_integer.kp T.b_is_integer .nil pass0 (pa_cons (pv 1) pa_nil)))) (pw_or1 (pt_cmpR op_lt (pv 1) pe_int (nomark _)))))
      (pss_one ps_never) pss_nil)
      (pss_cons (ps_set (i := 2) sc_move_root.nd rfl (.inl rfl) (pe_call (ok_root_of_move T) (hr.mono (by decide)) (by rfl) T.g_root_of_move T.F_root_of_move.kp T.b_root_of_move .nil pass0 (pa_cons (pe_call (ok_triple T) (hr.mono (by decide)) (by rfl) T.g_triple T.F_triple.kp T.b_triple .nil pass0 (pa_cons (pv 0) pa_nil)) (pa_cons (pv 1) pa_nil))))
      (pss_one (ps_ret (pe_ifExp (pt_cmpR op_isN (pv 2) pe_non (nomark _)) pe_non (pe_call (ok_made_move T) (hr.mono (by decide)) (by rfl) T.g_made_move T.F_made_move.kp T.b_made_move .nil pass0 (pa_cons (pv 2) pa_nil)))))))), _, rfl, _, rfl, s, k1, _, rfl, _, rfl, m, rfl, _, rfl, iteF ⟨_, rfl, _, _, rfl, rfl, false, ?_, iteF ?_⟩⟩
  · show V.bl (decide (m < 1)) = V.bl false
    rw [decide_eq_false m0]
  refine ⟨_, rfl, _, rfl, M, s, hM, h1, fun r1 M1 H1 g1 k1 => ⟨_, rfl, _, _, rfl, M1, s, m, g1.inn, k1, rfl, hm, bm, b1, fun r2 M2 H2 g2 k2 => ?_⟩⟩
  refine ⟨_, rfl, rfl, _, rfl, ?_⟩
  rw [opt_non k2]
  refine ite2 (fun e => ?_) (fun e => ?_)
  · have z : rootT s m = none := Option.isNone_iff_eq_none.mp e
    rw [z] at q
    exact q _ M2 H2 (g1.trans g2) rfl
  · cases z : rootT s m with
    | none => rw [z] at e; exact absurd rfl e
    | some c =>
      rw [z] at q k2
      exact ⟨_, rfl, _, rfl, M2, c, g2.inn, k2, fun r3 M3 H3 g3 k3 => q r3 M3 H3 ((g1.trans g2).trans g3) k3⟩
def LinkM (C : Addr) (n : Nat) (s t : T3) (M H : Hp) (Q : VK) : Prop := ∀ r M' H' o, Gr M H M' H' → OptM C M' r o → Lnk n s t o → Q r H'
def spLinkM (C : Addr) : Sp := sp2 fun x y H Q => ∃ M n s t, Same M H ∧ Mv C M x s ∧ Mv C M y t ∧ B n s ∧ B n t ∧ n ≤ 10 ^ 120 ∧ LinkM C n s t M H Q
theorem ok_move_alike (T : Txt K mg a) : FnOk P w K mg base CX0 7 a.f_move_alike a.d_move_alike ["one", "other"] (spLinkM a.C_Move) := by
  refine T.F_move_alike.ok sc_move_alike (len2 rfl) (fun cdv A outer s H vs Q E hr h => ?_)
  obtain ⟨_, _, rfl, M, n, s, t, hM, h1, h2, b1, b2, hn, q⟩ := h
  refine ⟨_, (pss_cons (ps_expr (pe_call (ok_check_moves T) (hr.mono (by decide)) (by rfl) T.g_check_moves T.F_check_moves.kp T.b_check_moves .nil pass0 (pa_cons (pv 0) (pa_cons (pv 1) pa_nil))))
      (pss_cons (ps_set (i := 2) sc_move_alike.nd rfl (.inl rfl) (pe_call (ok_link_of_moves T) (hr.mono (by decide)) (by rfl) T.g_link_of_moves T.F_link_of_moves.kp T.b_link_of_moves .nil pass0 (pa_cons (pe_call (ok_triple T) (hr.mono (by decide)) (by rfl) T.g_triple T.F_triple.kp T.b_triple .nil pass0 (pa_cons (pv 0) pa_nil)) (pa_cons (pe_call (ok_triple T) (hr.mono (by decide)) (by rfl) T.g_triple T.F_triple.kp T.b_triple .nil pass0 (pa_cons (pv 1) pa_nil)) pa_nil))))
      (pss_one (ps_ret (pe_ifExp (pt_cmpR op_isN (pv 2) pe_non (nomark _)) pe_non (pe_call (ok_made_move T) (hr.mono (by decide)) (by rfl) T.g_made_move T.F_made_move.kp T.b_made_move .nil pass0 (pa_cons (pv 2) pa_nil))))))), _, rfl, _, rfl, _, _, rfl, s, t, h1.mono hM, h2.mono hM, ?_⟩
  refine ⟨_, rfl, _, rfl, M, s, hM, h1, fun r1 M1 H1 g1 k1 => ?_⟩
  refine ⟨_, rfl, _, rfl, M1, t, g1.inn, h2.mono g1.ex, fun r2 M2 H2 g2 k2 => ?_⟩
  refine ⟨_, _, rfl, M2, n, s, t, g2.inn, k1.mono g2.ex, k2, b1, b2, hn, fun r3 M3 H3 o g3 k3 lk => ?_⟩
  refine ⟨_, rfl, rfl, _, rfl, ?_⟩
  rw [opt_non k3]
  have g := (g1.trans g2).trans g3
  cases o with
  | none => exact iteT (q _ M3 H3 none g rfl lk)
  | some c => exact iteF ⟨_, rfl, _, rfl, M3, c, g3.inn, k3, fun r4 M4 H4 g4 k4 => q r4 M4 H4 (some c) (g.trans g4) k4 lk⟩
def SayL (s t : T3) (M H : Hp) (Q : VK) : Prop := ∀ M' H' b, Gr M H M' H' → (b = true ↔ ∃ c, betT c s = t) → Q (.bl b) H'
def spIsAlike (C : Addr) : Sp := sp2 fun x y H Q => ∃ M n s t, Same M H ∧ Mv C M x s ∧ Mv C M y t ∧ B n s ∧ B n t ∧ n ≤ 10 ^ 120 ∧ SayL s t M H Q
theorem Lnk.iff {n : Nat} {s t : T3} {o : Option T3} (h : Lnk n s t o) : (!o.isNone) = true ↔ ∃ c, betT c s = t := by
  cases o with
  | none => exact ⟨fun z => absurd z (by decide), fun ⟨c, z⟩ => absurd z (h.no rfl c)⟩
  | some c => exact ⟨fun _ => ⟨c, (h.yes c rfl).1⟩, fun _ => rfl⟩
theorem ok_is_move_alike (T : Txt K mg a) : FnOk P w K mg base CX0 6 a.f_is_move_alike a.d_is_move_alike ["one", "other"] (spIsAlike a.C_Move) := by
  refine T.F_is_move_alike.ok sc_is_move_alike (len2 rfl) (fun cdv A outer s H vs Q E hr h => ?_)
  obtain ⟨_, _, rfl, M, n, s, t, hM, h1, h2, b1, b2, hn, q⟩ := h
  refine ⟨_, (pss_cons (ps_expr (pe_call (ok_check_moves T) (hr.mono (by decide)) (by rfl) T.g_check_moves T.F_check_moves.kp T.b_check_moves .nil pass0 (pa_cons (pv 0) (pa_cons (pv 1) pa_nil))))
      (pss_one (ps_ret (pe_cmpR op_notN (pe_call (ok_link_of_moves T) (hr.mono (by decide)) (by rfl) T.g_link_of_moves T.F_link_of_moves.kp T.b_link_of_moves .nil pass0 (pa_cons (pe_call (ok_triple T) (hr.mono (by decide)) (by rfl) T.g_triple T.F_triple.kp T.b_triple .nil pass0 (pa_cons (pv 0) pa_nil)) (pa_cons (pe_call (ok_triple T) (hr.mono (by decide)) (by rfl) T.g_triple T.F_triple.kp T.b_triple .nil pass0 (pa_cons (pv 1) pa_nil)) pa_nil))) pe_non (nomark _))))), _, rfl, _, rfl, _, _, rfl, s, t, h1.mono hM, h2.mono hM, ?_⟩
  refine ⟨_, rfl, _, rfl, M, s, hM, h1, fun r1 M1 H1 g1 k1 => ?_⟩
  refine ⟨_, rfl, _, rfl, M1, t, g1.inn, h2.mono g1.ex, fun r2 M2 H2 g2 k2 => ?_⟩
  refine ⟨_, _, rfl, M2, n, s, t, g2.inn, k1.mono g2.ex, k2, b1, b2, hn, fun r3 M3 H3 o g3 k3 lk => ⟨rfl, ?_⟩⟩
  rw [opt_non k3]
  exact q M3 H3 _ ((g1.trans g2).trans g3) lk.iff
def spCommute (C : Addr) : Sp := sp2 fun x y H Q => ∃ M s t, Same M H ∧ Mv C M x s ∧ Mv C M y t ∧ Sm s ∧ Sm t ∧ Say M H (decide (putT s t = putT t s)) Q
theorem commute_dec (s t : T3) : decide (V.int (gapT s t) = V.int 0) = decide (putT s t = putT t s) := by
  by_cases h : gapT s t = 0
  · rw [h, decide_eq_true rfl, decide_eq_true]
    simp only [gapT] at h
    simp only [putT, Prod.mk.injEq]
    refine ⟨by omega, by omega, by omega⟩
  · rw [decide_eq_false (fun z => h (V.int.inj z)), decide_eq_false]
    intro z
    apply h
    simp only [putT, Prod.mk.injEq] at z
    simp only [gapT]
    omega
theorem ok_do_moves_commute (T : Txt K mg a) : FnOk P w K mg base CX0 6 a.f_do_moves_commute a.d_do_moves_commute ["one", "other"] (spCommute a.C_Move) := by
  refine T.F_do_moves_commute.ok sc_do_moves_commute (len2 rfl) (fun cdv A outer s H vs Q E hr h => ?_)
  obtain ⟨_, _, rfl, M, s, t, hM, h1, h2, b1, b2, q⟩ := h
  refine ⟨_, (pss_cons (ps_expr (pe_call (ok_check_moves T) (hr.mono (by decide)) (by rfl) T.g_check_moves T.F_check_moves.kp T.b_check_moves .nil pass0 (pa_cons (pv 0) (pa_cons (pv 1) pa_nil))))
      (pss_one (ps_ret (pe_cmpR op_eq (pe_call (ok_gap_of T) (hr.mono (by decide)) (by rfl) T.g_gap_of T.F_gap_of.kp T.b_gap_of .nil pass0 (pa_cons (pe_call (ok_triple T) (hr.mono (by decide)) (by rfl) T.g_triple T.F_triple.kp T.b_triple .nil pass0 (pa_cons (pv 0) pa_nil)) (pa_cons (pe_call (ok_triple T) (hr.mono (by decide)) (by rfl) T.g_triple T.F_triple.kp T.b_triple .nil pass0 (pa_cons (pv 1) pa_nil)) pa_nil))) pe_int (nomark _))))), _, rfl, _, rfl, _, _, rfl, s, t, h1.mono hM, h2.mono hM, ?_⟩
  refine ⟨_, rfl, _, rfl, M, s, hM, h1, fun r1 M1 H1 g1 k1 => ?_⟩
  refine ⟨_, rfl, _, rfl, M1, t, g1.inn, h2.mono g1.ex, fun r2 M2 H2 g2 k2 => ?_⟩
  refine ⟨_, _, rfl, s, t, (k1.mono g2.ex).mono g2.inn, k2.mono g2.inn, b1, b2, rfl, ?_⟩
  rw [commute_dec]
  exact q M2 H2 (g1.trans g2)
end

end K64

namespace K64
open PySem PySem.Spec PyProof.Rows L2 Own
section
variable {P : Program} {w : World} {K : PySem.W.Frag} {mg : Str → Option Value} {base : Heap} {a : Ad}
/-- the reel is made of the script -/
def spReel (K : PySem.W.Frag) : Sp := sp2 fun x y H Q => ∃ p, ∃ ns : List Int, ∃ t, x = .ref p ∧ y = .int t ∧ SqL K H p (ns.map V.int) ∧ ns.length ≤ 63 ∧ (t = 0 ∨ t = 1) ∧
  ∀ v H' x y, Same H H' → H v = none → H' v = some (.lst [.int x, .int y, .int 1]) → 0 ≤ x → Q (.ref v) H'
theorem ok_l_reel (T : Txt K mg a) : FnOk P w K mg base CX0 1 a.f_l_reel a.d_l_reel ["_law_script", "_law_turn"] (spReel K) := by
  refine T.F_l_reel.ok sc_l_reel (len2 rfl) (fun cdv A outer s H vs Q E hr h => ?_)
  obtain ⟨_, _, rfl, p, ns, t, rfl, rfl, hS, hl, ht, q⟩ := h
  refine ⟨_, (pss_cons (ps_set (i := 2) sc_l_reel.nd rfl (.inl rfl) (pe_ifExp (pt_cmpR op_lt (pv 1) (pe_callB call_len_seq (by rfl) T.z_len (by decide +kernel) (pa_cons (pv 0) pa_nil)) (nomark _)) (pe_ix ix_list (pv 0) (pv 1) (fun _ _ => rfl)) (pe_op op_add (pe_op op_mul pe_int (pv 1)) pe_int)))
      (pss_cons (ps_set (i := 3) sc_l_reel.nd rfl (.inl rfl) (pe_op op_add pe_int (pe_op op_mul pe_int (pv 1))))
      (pss_cons (ps_for PassesOwn.never rfl (pi_list (pe_op op_cat (pe_slice sl_list (pv 0) po_none (po_some pe_int)) (pe_lst (pa_cons (pv 2) pa_nil)))) (pg_name (i := 4) sc_l_reel.nd rfl (.inl rfl))
      (pss_one (ps_set (i := 3) sc_l_reel.nd rfl (.inl rfl) (pe_op op_mod (pe_callTy call_int1 (by rfl) T.z_int (by decide +kernel) (pa_cons (pe_op op_add (pe_op op_mul (pv 3) pe_int) (pe_op op_mod (pe_callTy call_int1 (by rfl) T.z_int (by decide +kernel) (pa_cons (pv 4) pa_nil)) pe_int)) pa_nil)) pe_int))))
      (pss_one (ps_ret (pe_lst (pa_cons (pe_ifExp (PW.pt (pw_or (pt_cmpR op_lt (pv 2) pe_int (nomark _)) (pw_or1 (pt_cmpR op_ge (pv 2) (pe_op op_pow pe_int pe_int) (nomark _))))) (pe_callB call_abs (by rfl) T.z_abs (by decide +kernel) (pa_cons (pv 2) pa_nil)) pe_int) (pa_cons (pv 3) (pa_cons pe_int pa_nil))))))))), ?_⟩
  refine ⟨_, rfl, _, rfl, p, _, rfl, .inl hS, _, _, rfl, rfl, _, rfl, ?_⟩
  refine ite2 (fun e => ?a) (fun e => ?b)
  case' a =>
    have lt : t < ((ns.map V.int).length : Int) := of_decide_eq_true e
    obtain ⟨k, hkt⟩ := Int.eq_ofNat_of_zero_le (show 0 ≤ t by omega)
    have hk : k < ns.length := by rw [List.length_map] at lt; omega
    let own : Int := ns[k]
    refine ⟨_, rfl, _, rfl, p, _, t, .int own, rfl, rfl, hS, (by rw [hkt]; exact atI_nat (by rw [List.getElem?_map, List.getElem?_eq_getElem hk]; rfl)), ?_⟩
  case' b =>
    let own : Int := 211 * t + 37
    refine ⟨_, rfl, _, _, rfl, rfl, .inl ⟨by decide, by decide⟩, _, _, rfl, rfl, ?_⟩
  all_goals
    refine ⟨_, rfl, _, _, rfl, rfl, .inl ⟨by decide, by decide⟩, _, _, rfl, rfl, ?_⟩
    refine ⟨_, rfl, 5, rfl, p, _, rfl, hS, fun c nc => ?_⟩
    have cutI : ∃ ms : List Int, cutV (ns.map V.int) none (some 5) = ms.map V.int ∧ ms.length ≤ 63 := ⟨(ns.drop _).take _, by unfold cutV; rw [← List.map_drop, ← List.map_take], by rw [List.length_take, List.length_drop]; omega⟩
    obtain ⟨ms, ems, lms⟩ := cutI
    rw [ems]
    refine ⟨_, rfl, szL rfl, fun c2 nc2 => ?_⟩
    have sc1 : Same H (upd H c (.lst (ms.map V.int))) := same_new nc
    have sc2 : Same H (upd (upd H c (.lst (ms.map V.int))) c2 (.lst [.int own])) := sc1.trans (same_new nc2)
    have hc1 : (upd (upd H c (.lst (ms.map V.int))) c2 (.lst [.int own])) c = some (.lst (ms.map V.int)) := same_new nc2 _ _ upd_same
    refine ⟨c, c2, _, _, rfl, rfl, hc1, upd_same, ?_, fun c3 nc3 => ?_⟩
    · rw [List.length_map, sizeLine_eq]
      show ms.length + 1 ≤ _
      omega
    have em : ms.map V.int ++ [V.int own] = (ms ++ [own]).map V.int := by rw [List.map_append]; rfl
    generalize e3 : upd (upd (upd H c (.lst (ms.map V.int))) c2 (.lst [.int own])) c3 _ = H3
    have hl3 : H3 c3 = some (.lst ((ms ++ [own]).map V.int)) := by
      rw [← e3, upd_same, ← em]
    have sc3 : Same H H3 := by
      rw [← e3]
      exact sc2.trans (same_new nc3)
    refine ⟨c3, rfl, ⟨_, SqL.of hl3⟩, ?_⟩
    refine for_list (xs := (ms ++ [own]).map V.int) (fun i σ H' => ∃ mx y, σ = [some (.ref p), some (.int t), some (.int own), some (.int mx), y] ∧ H' = H3) ⟨_, none, rfl, rfl⟩ ?_ ?_ ?_
    · rintro i σ H' hi ⟨mx, y, rfl, rfl⟩
      exact SqL.of hl3
    · rintro i x σ H' hx ⟨mx, y, rfl, rfl⟩
      obtain ⟨k, rfl⟩ : ∃ k : Int, x = .int k := by
        have := List.mem_of_getElem? hx
        rw [List.mem_map] at this
        obtain ⟨k, _, rfl⟩ := this
        exact ⟨k, rfl⟩
      exact ⟨_, rfl, _, _, rfl, rfl, .inr ⟨by decide, by decide⟩, _, rfl, .inl ⟨_, rfl, _, _, rfl, rfl, (by show (0 : Int) < 2147480009; decide), _, _, rfl, rfl, .inl ⟨_, rfl, _, _, rfl, rfl, (by show (0 : Int) < 2147480009; decide), _, _, rfl, rfl⟩⟩⟩
    · rintro σ H' ⟨mx, y, rfl, rfl⟩
      have last : ∀ b : Int, 0 ≤ b → ∀ z : Int, [V.int b, V.int z, V.int 1].length ≤ sizeLine ∧ ∀ v, H' v = none → Q (.ref v) (upd H' v (.lst [.int b, .int z, .int 1])) := by
        intro b hb z
        refine ⟨szL rfl, fun v nv => ?_⟩
        exact q v _ b z (sc3.trans (same_new nv)) (sc3.free nv) upd_same hb
      refine ⟨_, rfl, _, _, rfl, rfl, _, rfl, ite2 (fun e1 => ?_) (fun e1 => ?_)⟩
      · exact ⟨_, rfl, _, rfl, _, rfl, last _ (abs_nn own) _⟩
      · refine ⟨_, rfl, _, _, rfl, rfl, ⟨by decide, by decide, by decide⟩, _, _, rfl, rfl, _, rfl, ite2 (fun e1 => ?_) (fun e1 => ?_)⟩
        · exact ⟨_, rfl, _, rfl, _, rfl, last _ (abs_nn own) _⟩
        · exact ⟨_, rfl, last 0 (Int.le_refl _) _⟩
/-- a number from 0 to one less than most is drawn -/
def spWind : Sp := sp2 fun x y H Q => ∃ v n M m, x = .ref v ∧ y = .int m ∧ Vl v n M H ∧ n < 1000000 ∧ 0 < m ∧ m < 1000000000 ∧
  ∀ r H', 0 ≤ r → r < m → Vl v (n + 1) M H' → Q (.int r) H'
theorem ok_l_wind (T : Txt K mg a) : FnOk P w K mg base CX0 1 a.f_l_wind a.d_l_wind ["_law_reel_here", "_law_many"] spWind := by
  refine T.F_l_wind.ok sc_l_wind (len2 rfl) (fun cdv A outer s H vs Q E hr h => ?_)
  obtain ⟨_, _, rfl, v, n, M, m, rfl, rfl, w, hn, h0, h1, q⟩ := h
  obtain ⟨x, y, z, hv, hx, hz, hzn⟩ := w.at_
  refine ⟨_, (pss_cons (ps_if (pt_cmpR op_gt (pe_ix ix_list (pv 0) pe_int (fun _ _ => rfl)) pe_int (nomark _))
      (pss_cons (ps_asg (pe_callB call_divmod (by rfl) T.z_divmod (by decide +kernel) (pa_cons (pe_ix ix_list (pv 0) pe_int (fun _ _ => rfl)) (pa_cons (pv 1) pa_nil))) (pg_tup (by rfl) (pgs_cons (pg_sub (pv 0) pe_int set_list) (pgs_cons (pg_name (i := 2) sc_l_wind.nd rfl (.inl rfl)) pgs_nil))))
      (pss_one (ps_ret (pv 2)))) pss_nil)
      (pss_cons (ps_asg (pe_op op_add (pe_ix ix_list (pv 0) pe_int (fun _ _ => rfl)) pe_int) (pg_sub (pv 0) pe_int set_list))
      (pss_cons (ps_asg (pe_op op_mod (pe_callTy call_int1 (by rfl) T.z_int (by decide +kernel) (pa_cons (pe_op op_add (pe_op op_add (pe_op op_mul (pe_ix ix_list (pv 0) pe_int (fun _ _ => rfl)) pe_int) (pe_op op_mul (pe_op op_mul (pe_ix ix_list (pv 0) pe_int (fun _ _ => rfl)) (pe_ix ix_list (pv 0) pe_int (fun _ _ => rfl))) pe_int)) pe_int) pa_nil)) pe_int) (pg_sub (pv 0) pe_int set_list))
      (pss_one (ps_ret (pe_op op_mod (pe_callTy call_int1 (by rfl) T.z_int (by decide +kernel) (pa_cons (pe_op op_fdiv (pe_ix ix_list (pv 0) pe_int (fun _ _ => rfl)) pe_int) pa_nil)) (pv 1))))))), ?_⟩
  refine ⟨_, rfl, v, _, _, _, rfl, rfl, SqL.of hv, rfl, _, _, rfl, rfl, _, rfl, ite2 (fun e => ?_) (fun e => ?_)⟩
  · refine ⟨_, rfl, v, _, _, _, rfl, rfl, SqL.of hv, rfl, _, rfl, _, _, rfl, ⟨h0, by omega⟩, fun p hp => ?_⟩
    have hv2 : (upd H p (.tup [.int (x / m), .int (x % m)])) v = some (.lst [.int x, .int y, .int z]) := by
      rw [upd_ne (ne_of_none hv hp)]
      exact hv
    refine ⟨p, _, rfl, .inl (.inl upd_same), rfl, _, _, rfl, ?_⟩
    refine ⟨_, rfl, v, _, _, 0, rfl, rfl, hv2, rfl, ?_⟩
    refine ⟨_, _, rfl, rfl, ?_⟩
    refine ⟨_, rfl, q _ _ (Int.emod_nonneg _ (by omega)) (Int.emod_lt_of_pos _ h0) ?_⟩
    exact vl_set (fun b o e => same_new hp b o (w.inn b o e)) w.off (Int.ediv_nonneg hx (by omega)) hz (by omega)
  · refine ⟨_, rfl, v, _, _, _, rfl, rfl, SqL.of hv, rfl, _, _, rfl, rfl, _, rfl, v, _, _, 2, rfl, rfl, hv, rfl, ?_⟩
    have hv3 : (upd H v (.lst [.int x, .int y, .int (z + 1)])) v = some (.lst [.int x, .int y, .int (z + 1)]) := upd_same
    refine ⟨_, rfl, v, _, _, _, rfl, rfl, SqL.of hv3, rfl, _, _, rfl, rfl, .inr ⟨by decide, by decide⟩, ?_⟩
    refine ⟨_, rfl, v, _, _, _, rfl, rfl, SqL.of hv3, rfl, _, rfl, v, _, _, _, rfl, rfl, SqL.of hv3, rfl, _, _, rfl, rfl, .inl ⟨by omega, by omega⟩, ?_⟩
    refine ⟨_, _, rfl, rfl, .inr ⟨by decide, by decide⟩, _, _, rfl, rfl, _, _, rfl, rfl, .inl ⟨_, rfl, _, _, rfl, rfl, (by show (0 : Int) < 2147480009; decide), ?_⟩⟩
    refine ⟨_, rfl, v, _, _, 1, rfl, rfl, hv3, rfl, ?_⟩
    refine ⟨_, rfl, v, _, _, _, rfl, rfl, SqL.of upd_same, rfl, _, _, rfl, rfl, ⟨by decide, by decide⟩, .inl ⟨_, rfl, _, rfl, _, _, rfl, rfl, h0, ?_⟩⟩
    refine q _ _ (Int.emod_nonneg _ (by omega)) (Int.emod_lt_of_pos _ h0) ?_
    rw [upd_upd]
    exact vl_set w.inn w.off hx (by omega) (by omega)
/-- one of some things -/
def spOneOf (K : PySem.W.Frag) : Sp := sp2 fun x y H Q => ∃ v n M p xs, x = .ref v ∧ y = .ref p ∧ Vl v n M H ∧ n < 1000000 ∧ M p = some (.lst xs) ∧ 0 < xs.length ∧ xs.length < 1000 ∧
  ∀ r H', r ∈ xs → Vl v (n + 1) M H' → Q r H'
theorem ok_l_one_of (T : Txt K mg a) : FnOk P w K mg base CX0 2 a.f_l_one_of a.d_l_one_of ["_law_reel_here", "_law_menu"] (spOneOf K) := by
  refine T.F_l_one_of.ok sc_l_one_of (len2 rfl) (fun cdv A outer s H vs Q E hr h => ?_)
  obtain ⟨_, _, rfl, v, n, M, p, xs, rfl, rfl, w, hn, hp, h0, h1, q⟩ := h
  refine ⟨_, (pss_one (ps_ret (pe_ix ix_list (pv 1) (pe_call (ok_l_wind T) (hr.mono (by decide)) (by rfl) T.g_l_wind T.F_l_wind.kp T.b_l_wind .nil pass0 (pa_cons (pv 0) (pa_cons (pe_callB call_len_seq (by rfl) T.z_len (by decide +kernel) (pa_cons (pv 1) pa_nil)) pa_nil))) (fun _ _ => rfl)))), _, rfl, _, rfl, _, rfl, p, xs, rfl, .inl (SqL.of (w.inn _ _ hp)), _, _, rfl, v, n, M, _, rfl, rfl, w, hn, by omega, by omega, fun r H' r0 r1 w' => ?_⟩
  obtain ⟨k, rfl⟩ := Int.eq_ofNat_of_zero_le r0
  have hk : k < xs.length := by omega
  exact ⟨p, xs, (k : Int), xs[k], rfl, rfl, SqL.of (w'.inn _ _ hp), atI_nat (List.getElem?_eq_getElem hk), q _ H' (List.getElem_mem hk) w'⟩
/-- three numbers are drawn -/
def spTrip : Sp := sp2 fun x y H Q => ∃ v n M m, x = .ref v ∧ y = .int m ∧ Vl v n M H ∧ n + 3 < 1000000 ∧ 0 ≤ m ∧ m ≤ 1000 ∧
  ∀ r M' H' t, Same M M' → Vl v (n + 3) M' H' → TripAt M' r t → B m.toNat t → Q r H'
theorem ok_l_trip (T : Txt K mg a) : FnOk P w K mg base CX0 2 a.f_l_trip a.d_l_trip ["_law_reel_here", "_law_size"] spTrip := by
  refine T.F_l_trip.ok sc_l_trip (len2 rfl) (fun cdv A outer s H vs Q E hr h => ?_)
  obtain ⟨_, _, rfl, v, n, M, m, rfl, rfl, w, hn, h0, h1, q⟩ := h
  refine ⟨_, (pss_one (ps_ret (pe_callTy call_tuple_of (by rfl) T.z_tuple (by decide +kernel) (pa_cons (pe_lc (own := [("_law_spot", 2)]) (g := gName 2) (tt := tYes) rfl sc_l_trip.nd (pi_range1 (by rfl) T.z_range (pa_cons pe_int pa_nil)) (blkOk_by (own := [("_law_spot", 2)]) (N := ["_law_reel_here", "_law_size", "_law_spot"]) (sc := defScope s_l_trip) (by decide +kernel)) (fun _ _ _ _ _ => (pg_name (i := 2) sc_l_trip.nd rfl (.inl rfl))) (fun _ _ _ _ _ => pts_nil) (fun _ _ _ _ _ => (pe_op op_sub (pe_call (ok_l_wind T) (hr.mono (by decide)) (by rfl) T.g_l_wind T.F_l_wind.kp T.b_l_wind .nil pass0 (pa_cons (pv 0) (pa_cons (pe_op op_add (pe_op op_mul pe_int (pv 1)) pe_int) pa_nil))) (pv 1)))) pa_nil)))), ?_⟩
  refine ⟨3, rfl, by decide, by decide, fun D nD => ?_⟩
  refine lc_range (n := 3) (fun i H' => ∃ M' ys, BuildV v (n + i) M D (ys.map V.int) M' H' ∧ ys.length = i ∧ ∀ y ∈ ys, y.natAbs ≤ m.toNat) ⟨_, [], BuildV.start w nD, rfl, fun _ h => nomatch h⟩ ?_ ?_
  · rintro i H1 hi ⟨M1, ys, b, hl, hy⟩
    refine ⟨rfl, yes_if ?_⟩
    refine ⟨_, rfl, _, rfl, _, _, rfl, rfl, .inl ⟨by decide, by decide⟩, _, _, rfl, rfl, ?_⟩
    refine ⟨_, _, rfl, v, n + i, M1, 2 * m + 1, rfl, rfl, b.vl, by omega, by omega, by omega, fun r H2 r0 r1 w2 => ?_⟩
    refine ⟨_, rfl, _, _, rfl, rfl, ?_⟩
    have b2 : BuildV v (n + (i + 1)) M D (ys.map V.int) M1 H2 := b.draw (Same.refl _) w2
    refine ⟨_, b2.here, ?_, upd M1 D (.lst (ys.map V.int ++ [.int (r - m)])), ys ++ [r - m], ?_, ?_, ?_⟩
    · rw [List.length_map]
      exact small1000 (by omega)
    · rw [List.map_append]
      exact b2.push _
    · rw [List.length_append, hl]
      rfl
    · intro y hy2
      rcases List.mem_append.mp hy2 with h | h
      · exact hy y h
      · rw [List.mem_singleton.mp h]
        omega
  · rintro H1 ⟨M1, ys, b, hl, hy⟩
    match ys, hl with
    | [y1, y2, y3], _ =>
      refine ⟨D, _, rfl, .inl ⟨SqL.of b.here, fun l nl => ?_⟩⟩
      have g := gr_new (o := .tup [.int y1, .int y2, .int y3]) b.vl.inn nl
      refine q _ _ _ (y1, y2, y3) (b.ex.trans g.ex) (b.vl.grow g) ⟨l, rfl, upd_same⟩ ⟨hy _ (by simp), hy _ (by simp), hy _ (by simp)⟩
end

end K64

namespace K64
open PySem PySem.Spec PyProof.Rows L2 Own
section
variable {P : Program} {w : World} {K : PySem.W.Frag} {mg : Str → Option Value} {base : Heap} {a : Ad}
/-! ### so often -/
def powT (t : T3) (c : Int) : T3 := (t.1 * c, t.2.1 * c, t.2.2 * c + triI c * t.1 * t.2.1)
theorem tri2 (m : Int) : 2 * triI m = m * (m - 1) := by
  unfold triI
  refine Int.mul_ediv_cancel' ?_
  rcases Int.emod_two_eq m with h | h
  · exact Int.dvd_trans (Int.dvd_of_emod_eq_zero h) (Int.dvd_mul_right _ _)
  · exact Int.dvd_trans (Int.dvd_of_emod_eq_zero (by omega)) (Int.dvd_mul_left _ _)
theorem tri_add (x y : Int) : triI (x + y) = triI x + triI y + x * y := by
  have h1 := tri2 (x + y)
  have h2 := tri2 x
  have h3 := tri2 y
  have h4 : (x + y) * (x + y - 1) = x * (x - 1) + y * (y - 1) + 2 * (x * y) := by grind
  omega
theorem pow_add (t : T3) (x y : Int) : putT (powT t x) (powT t y) = powT t (x + y) := by
  simp only [putT, powT, Prod.mk.injEq, tri_add]
  refine ⟨by grind, by grind, by grind⟩
theorem pow_zero (t : T3) : powT t 0 = (0, 0, 0) := by
  simp [powT, triI]
theorem pow_one (t : T3) : powT t 1 = t := by
  simp [powT, triI]
theorem B.pow {n m : Nat} {t : T3} {c : Int} (h : B n t) (k : c.natAbs ≤ m) : B (n * m + m * (m + 1) * n * n) (powT t c) := by
  obtain ⟨h1, h2, h3⟩ := h
  have z1 := na_mul h1 k
  have z2 := na_mul h2 k
  have z3 := na_mul h3 k
  have z4 : (triI c).natAbs ≤ m * (m + 1) := Nat.le_trans (div_le _ 2 (by decide)) (na_mul k (by omega))
  have z5 := na_mul (na_mul z4 h1) h2
  refine ⟨?_, ?_, ?_⟩ <;> simp only [powT] <;> omega
theorem mod_succ {c p : Int} (hp : 0 < p) : c % (p * 2) = c % p + p * (c / p % 2) := by
  have h1 := Int.mul_ediv_add_emod c p
  have h2 := Int.mul_ediv_add_emod (c / p) 2
  have m0 : 0 ≤ c % p := Int.emod_nonneg _ (by omega)
  have m1 : c % p < p := Int.emod_lt_of_pos _ hp
  have e : c = (c % p + p * (c / p % 2)) + p * 2 * (c / p / 2) := by grind
  have k : (c % p + p * (c / p % 2)) % (p * 2) = c % p + p * (c / p % 2) := by
    refine Int.emod_eq_of_lt ?_ ?_
    · rcases Int.emod_two_eq (c / p) with h | h <;> rw [h] <;> omega
    · rcases Int.emod_two_eq (c / p) with h | h <;> rw [h] <;> omega
  have e2 : c % (p * 2) = ((c % p + p * (c / p % 2)) + p * 2 * (c / p / 2)) % (p * 2) := by rw [← e]
  rw [e2, Int.add_mul_emod_self_left, k]
def spPower : Sp := sp2 fun x y H Q => ∃ M t c, Same M H ∧ TripAt M x t ∧ y = .int c ∧ 0 ≤ c ∧ c ≤ 10 ^ 30 ∧ B (10 ^ 40) t ∧ NewT M H (powT t c) Q
theorem ok_l_power (T : Txt K mg a) : FnOk P w K mg base CX0 2 a.f_l_power a.d_l_power ["_law_trip_here", "_law_count"] spPower := by
  refine T.F_l_power.ok sc_l_power (len2 rfl) (fun cdv A outer s H vs Q E hr h => ?_)
  obtain ⟨x, _, rfl, M, t, c, hM, h1, rfl, c0, c1, bt, q⟩ := h
  refine ⟨_, (pss_cons (ps_par3 (by rfl) sc_l_power.nd (i := 2) (j := 3) (l := 4) rfl rfl rfl (by decide) (by decide) (by decide) rfl rfl rfl (pa_cons (pe_ifExp (pt_cmpR op_ge (pv 1) pe_int (nomark _)) (pv 0) (pe_call (ok_l_off T) (hr.mono (by decide)) (by rfl) T.g_l_off T.F_l_off.kp T.b_l_off .nil pass0 (pa_cons (pv 0) pa_nil))) (pa_cons (pe_tup (pa_cons pe_int (pa_cons pe_int (pa_cons pe_int pa_nil)))) (pa_cons (pe_callB call_abs (by rfl) T.z_abs (by decide +kernel) (pa_cons (pv 1) pa_nil)) pa_nil))) (by rfl))
      (pss_cons (ps_for PassesOwn.never rfl (pi_range1 (by rfl) T.z_range (pa_cons pe_int pa_nil)) (pg_name (i := 5) sc_l_power.nd rfl (.inl rfl))
      (pss_cons (ps_if (pt_cmpR op_eq (pv 4) pe_int (nomark _))
      (pss_one ps_break) pss_nil)
      (pss_cons (ps_asg (pe_callB call_divmod (by rfl) T.z_divmod (by decide +kernel) (pa_cons (pv 4) (pa_cons pe_int pa_nil))) (pg_tup (by rfl) (pgs_cons (pg_name (i := 4) sc_l_power.nd rfl (.inl rfl)) (pgs_cons (pg_name (i := 6) sc_l_power.nd rfl (.inl rfl)) pgs_nil))))
      (pss_cons (ps_set (i := 3) sc_l_power.nd rfl (.inl rfl) (pe_ifExp (pt_cmpR op_eq (pv 6) pe_int (nomark _)) (pe_call (ok_l_put T) (hr.mono (by decide)) (by rfl) T.g_l_put T.F_l_put.kp T.b_l_put .nil pass0 (pa_cons (pv 3) (pa_cons (pv 2) pa_nil))) (pv 3)))
      (pss_one (ps_set (i := 2) sc_l_power.nd rfl (.inl rfl) (pe_call (ok_l_put T) (hr.mono (by decide)) (by rfl) T.g_l_put T.F_l_put.kp T.b_l_put .nil pass0 (pa_cons (pv 2) (pa_cons (pv 2) pa_nil)))))))))
      (pss_one (ps_ret (pv 3))))), ?_⟩
  have sm : ∀ k : Int, 0 ≤ k → k ≤ 10 ^ 30 → Sm (powT t k) := fun k k0 k1 => (bt.pow (m := 10 ^ 30) (by omega)).sm (by decide +kernel)
  refine ⟨_, rfl, _, _, rfl, rfl, true, ?_, iteT ?_⟩
  · show V.bl (decide (0 ≤ c)) = V.bl true
    rw [decide_eq_true c0]
  refine ⟨_, rfl, ?_⟩
  refine ⟨szL rfl, fun p1 pn1 => ?_⟩
  generalize e1 : upd H p1 _ = H1
  obtain ⟨M1, g1, hp1⟩ := new_of e1 hM pn1
  have k1 : TripAt M1 (.ref p1) (0, 0, 0) := ⟨p1, rfl, hp1⟩
  refine ⟨_, rfl, _, rfl, _, _, _, rfl, ?_⟩
  have ca : (if c < 0 then -c else c) = c := by rw [if_neg (by omega)]
  rw [ca]
  refine ⟨900, rfl, by decide, by decide, ?_⟩
  refine for_range (lo := 0) (n := 900) (fun i σ H' => ∃ M' xh xf y1 y2, σ = [some x, some (.int c), some xh, some xf, some (.int (c / 2 ^ i)), y1, y2] ∧ Gr M H M' H' ∧ TripAt M' xh (powT t (2 ^ i)) ∧ TripAt M' xf (powT t (c % 2 ^ i)))
    ⟨M1, x, .ref p1, none, none, ?_, g1, ?_, ?_⟩ ?_ ?_
  · rw [Int.pow_zero, Int.ediv_one]
    rfl
  · rw [Int.pow_zero, pow_one]
    exact h1.mono g1.ex
  · rw [Int.pow_zero, Int.emod_one, pow_zero]
    exact k1
  · rintro i σ H' hi ⟨M', xh, xf, y1, y2, rfl, g, kh, kf⟩
    have pp : (0 : Int) < 2 ^ i := Int.pow_pos (by decide)
    refine ⟨_, rfl, rfl, _, rfl, ite2 (fun e => ?_) (fun e => ?_)⟩
    · have e1 : c / 2 ^ i = 0 := V.int.inj (of_decide_eq_true e)
      have e2 : c % 2 ^ i = c := by
        have := Int.mul_ediv_add_emod c (2 ^ i)
        rw [e1] at this
        omega
      rw [e2] at kf
      exact ⟨_, rfl, q xf M' H' g kf⟩
    · have e1 : ¬ c / 2 ^ i = 0 := fun z => e (decide_eq_true (congrArg V.int z))
      have pc : (2 : Int) ^ i ≤ c := by
        have d0 := Int.ediv_nonneg c0 (Int.le_of_lt pp)
        have := Int.mul_ediv_add_emod c (2 ^ i)
        have m0 : 0 ≤ c % 2 ^ i := Int.emod_nonneg _ (by omega)
        have : (2 : Int) ^ i * 1 ≤ 2 ^ i * (c / 2 ^ i) := Int.mul_le_mul_of_nonneg_left (by omega) (Int.le_of_lt pp)
        omega
      have m0 : 0 ≤ c % 2 ^ i := Int.emod_nonneg _ (by omega)
      have m1 : c % 2 ^ i < 2 ^ i := Int.emod_lt_of_pos _ pp
      refine ⟨_, rfl, _, _, rfl, ⟨by decide, by decide⟩, fun p np => ?_⟩
      generalize e2 : upd H' p _ = H2
      obtain ⟨M2, g2, hp2⟩ := new_of e2 g.inn np
      refine ⟨p, _, rfl, SqT.of (g2.inn _ _ hp2), rfl, _, _, rfl, _, _, rfl, rfl, ?_⟩
      replace g := g.trans g2
      replace kh := kh.mono g2.ex
      replace kf := kf.mono g2.ex
      have ed : c / 2 ^ i / 2 = c / 2 ^ (i + 1) := by
        rw [Int.pow_succ, Int.ediv_ediv, if_neg (by omega)]
        omega
      have em := mod_succ (c := c) pp
      rw [← Int.pow_succ] at em
      refine ⟨_, rfl, rfl, _, rfl, ite2 (fun e => ?a) (fun e => ?b)⟩
      case' a =>
        have e3 : c / 2 ^ i % 2 = 1 := V.int.inj (of_decide_eq_true e)
        refine ⟨_, rfl, _, rfl, _, _, rfl, M2, _, _, g.inn, kf, kh, sm _ m0 (by omega), sm _ (Int.le_of_lt pp) (by omega), fun xg Mg Hg gg kg => ?_⟩
        rw [pow_add, show c % 2 ^ i + 2 ^ i = c % 2 ^ (i + 1) by rw [em, e3]; omega] at kg
        replace g := g.trans gg
        replace kh := kh.mono gg.ex
      case' b =>
        have e3 : c / 2 ^ i % 2 = 0 := by
          have := Int.emod_two_eq (c / 2 ^ i)
          have : ¬ c / 2 ^ i % 2 = 1 := fun z => e (decide_eq_true (congrArg V.int z))
          omega
        refine ⟨_, rfl, ?_⟩
        have kg := kf
        rw [show c % 2 ^ i = c % 2 ^ (i + 1) by rw [em, e3]; omega] at kg
      all_goals
        refine ⟨_, rfl, _, rfl, _, _, rfl, _, _, _, g.inn, kh, kh, sm _ (Int.le_of_lt pp) (by omega), sm _ (Int.le_of_lt pp) (by omega), fun xn Mn Hn gn kn => ?_⟩
        rw [pow_add, show (2 : Int) ^ i + 2 ^ i = 2 ^ (i + 1) by rw [Int.pow_succ]; omega] at kn
        refine ⟨Mn, xn, _, some (.int (0 + (i : Int))), some (.int (c / 2 ^ i % 2)), ?_, g.trans gn, kn, kg.mono gn.ex⟩
        rw [← ed]
        rfl
  · rintro σ H' ⟨M', xh, xf, y1, y2, rfl, g, kh, kf⟩
    have e2 : c % 2 ^ 900 = c := Int.emod_eq_of_lt c0 (Int.lt_of_le_of_lt c1 (by decide +kernel))
    rw [e2] at kf
    exact ⟨_, rfl, q xf M' H' g kf⟩
/-- what lies between -/
def spBet : Sp := sp2 fun x y H Q => ∃ M c s, Same M H ∧ TripAt M x c ∧ TripAt M y s ∧ B (10 ^ 102) c ∧ B (10 ^ 60) s ∧ NewT M H (betT c s) Q
theorem ok_l_between (T : Txt K mg a) : FnOk P w K mg base CX0 2 a.f_l_between a.d_l_between ["_law_by", "_law_trip_here"] spBet := by
  refine T.F_l_between.ok sc_l_between (len2 rfl) (fun cdv A outer s H vs Q E hr h => ?_)
  obtain ⟨_, _, rfl, M, c, s, hM, h1, h2, b1, b2, q⟩ := h
  refine ⟨_, (pss_one (ps_ret (pe_call (ok_l_put T) (hr.mono (by decide)) (by rfl) T.g_l_put T.F_l_put.kp T.b_l_put .nil pass0 (pa_cons (pe_call (ok_l_put T) (hr.mono (by decide)) (by rfl) T.g_l_put T.F_l_put.kp T.b_l_put .nil pass0 (pa_cons (pv 0) (pa_cons (pv 1) pa_nil))) (pa_cons (pe_call (ok_l_off T) (hr.mono (by decide)) (by rfl) T.g_l_off T.F_l_off.kp T.b_l_off .nil pass0 (pa_cons (pv 0) pa_nil)) pa_nil))))), ?_⟩
  refine ⟨_, rfl, _, rfl, _, _, rfl, M, c, s, hM, h1, h2, b1.sm (by decide +kernel), b2.sm (by decide +kernel), fun r1 M1 H1 g1 k1 => ?_⟩
  refine ⟨_, rfl, _, rfl, M1, c, g1.inn, h1.mono g1.ex, b1.sm (by decide +kernel), fun r2 M2 H2 g2 k2 => ?_⟩
  refine ⟨_, _, rfl, M2, _, _, g2.inn, k1.mono g2.ex, k2, (b1.put b2).sm (by decide +kernel), b1.off.sm (by decide +kernel), fun r3 M3 H3 g3 k3 => ?_⟩
  exact q r3 M3 H3 ((g1.trans g2).trans g3) k3
/-! ### lists of ints -/
def dIs (l : List Int) : PyData := .list (l.map PyData.int)
theorem dp_ints {M : Hp} {p : Addr} {l : List Int} (h : M p = some (.lst (l.map V.int))) : Dp K M (.ref p) (dIs l) := by
  refine .lst (SqL.of h) ?_
  clear h
  induction l with
  | nil => exact .nil
  | cons i l ih => exact .cons (.int i) ih
theorem sh_ints (l : List Int) : SeqAt.shaped (dIs l) = true := by
  have e1 : PyData.canLay0 (dIs l) = true := by
    have : ∀ ss : List Int, PyData.canLayAll0 (ss.map PyData.int) = true := by
      intro ss
      induction ss with
      | nil => rfl
      | cons s r ih =>
        rw [List.map_cons]
        show (PyData.canLay0 (.int s) && PyData.canLayAll0 (r.map PyData.int)) = true
        rw [ih]
        rfl
    exact this l
  have e2 : PyData.depth (dIs l) ≤ 64 := by
    have : ∀ ss : List Int, PyData.depthAll (ss.map PyData.int) ≤ 1 := by
      intro ss
      induction ss with
      | nil => exact Nat.zero_le _
      | cons s r ih =>
        rw [List.map_cons]
        show max (PyData.depth (.int s)) (PyData.depthAll (r.map PyData.int)) ≤ 1
        exact Nat.max_le.mpr ⟨Nat.zero_le _, ih⟩
    have := this l
    show PyData.depthAll (l.map PyData.int) + 1 ≤ 64
    omega
  unfold SeqAt.shaped
  rw [e1, decide_eq_true e2]
  rfl
theorem eqv_ints (l : List Int) : PyData.eqv (dIs l) (.list []) = l.isEmpty := by
  cases l with
  | nil => rfl
  | cons _ _ => rfl
end

end K64

namespace K64
open PySem PySem.Spec PyProof.Rows L2 Own
section
variable {P : Program} {w : World} {K : PySem.W.Frag} {mg : Str → Option Value} {base : Heap} {a : Ad}
/-! ### few steps do for small moves -/
def okx (e n d x : Int) : Bool := if e = 0 then x * n == d else ((x * n - d) % e == 0 && decide (((x * n - d) / e).natAbs ≤ 20))
def chk : Bool := (List.range 9).all fun i => (List.range 9).all fun j => (List.range 17).all fun k =>
  (((k : Int) - 8).natAbs % Nat.gcd ((i : Int) - 4).natAbs ((j : Int) - 4).natAbs != 0) || (List.range 17).any fun l => okx ((i : Int) - 4) ((j : Int) - 4) ((k : Int) - 8) ((l : Int) - 8)
theorem chk_ok : chk = true := by decide +kernel
theorem few {e n d : Int} (he : e.natAbs ≤ 4) (hn : n.natAbs ≤ 4) (hd : d.natAbs ≤ 8) {x y : Int} (h : d = x * n - e * y) :
    ∃ j k : Nat, j < 17 ∧ k < 41 ∧ d = (-8 + (j : Int)) * n - e * (-20 + (k : Int)) := by
  have c := chk_ok
  unfold chk at c
  rw [List.all_eq_true] at c
  have c1 := c (e + 4).toNat (List.mem_range.mpr (by omega))
  rw [List.all_eq_true] at c1
  have c2 := c1 (n + 4).toNat (List.mem_range.mpr (by omega))
  rw [List.all_eq_true] at c2
  have c3 := c2 (d + 8).toNat (List.mem_range.mpr (by omega))
  rw [show (((e + 4).toNat : Int) - 4) = e by omega, show (((n + 4).toNat : Int) - 4) = n by omega, show (((d + 8).toNat : Int) - 8) = d by omega] at c3
  have dv : d.natAbs % Nat.gcd e.natAbs n.natAbs = 0 := by
    have d1 : ((Int.gcd e n : Nat) : Int) ∣ d := by
      rw [h]
      exact Int.dvd_sub (Int.dvd_trans (Int.gcd_dvd_right ..) (Int.dvd_mul_left _ _)) (Int.dvd_trans (Int.gcd_dvd_left ..) (Int.dvd_mul_right _ _))
    have d2 := Int.natAbs_dvd_natAbs.mpr d1
    rw [Int.natAbs_natCast] at d2
    exact Nat.mod_eq_zero_of_dvd d2
  rw [dv] at c3
  simp only [bne_self_eq_false, Bool.false_or, List.any_eq_true, List.mem_range] at c3
  obtain ⟨l, hl, k⟩ := c3
  unfold okx at k
  by_cases e0 : e = 0
  · rw [if_pos e0] at k
    refine ⟨l, 20, hl, by decide, ?_⟩
    have := beq_iff_eq.mp k
    rw [e0, Int.zero_mul, ← this]
    rw [show ((l : Int) - 8) = -8 + (l : Int) by omega]
    omega
  · rw [if_neg e0, Bool.and_eq_true, beq_iff_eq, decide_eq_true_eq] at k
    obtain ⟨k1, k2⟩ := k
    refine ⟨l, ((((l : Int) - 8) * n - d) / e + 20).toNat, hl, by omega, ?_⟩
    have e1 := Int.mul_ediv_cancel' (Int.dvd_of_emod_eq_zero k1)
    rw [show ((((((l : Int) - 8) * n - d) / e + 20).toNat : Nat) : Int) = (((l : Int) - 8) * n - d) / e + 20 by omega]
    rw [show -20 + ((((l : Int) - 8) * n - d) / e + 20) = (((l : Int) - 8) * n - d) / e by omega, e1, show -8 + (l : Int) = (l : Int) - 8 by omega]
    omega
def spAreAlike : Sp := sp2 fun x y H Q => ∃ M s t, Same M H ∧ TripAt M x s ∧ TripAt M y t ∧ B 4 s ∧ (t.2.2 - s.2.2).natAbs ≤ 8 ∧ SayL s t M H Q
theorem ok_l_are_alike (T : Txt K mg a) : FnOk P w K mg base CX0 3 a.f_l_are_alike a.d_l_are_alike ["_law_first", "_law_last"] spAreAlike := by
  refine T.F_l_are_alike.ok sc_l_are_alike (len2 rfl) (fun cdv A outer s H vs Q E hr h => ?_)
  obtain ⟨x1, x2, rfl, M, s, t, hM, h1, h2, b1, bd, q⟩ := h
  refine ⟨_, (pss_cons (ps_if (pt_cmpR (op_neD (hr.mono (Nat.zero_le _)).units) (pe_slice sl_tup (pv 0) po_none (po_some pe_int)) (pe_slice sl_tup (pv 1) po_none (po_some pe_int)) (nomark _))
      (pss_one (ps_ret pe_bl)) pss_nil)
      (pss_cons (ps_for PassesOwn.never rfl (pi_range2 (by rfl) T.z_range (pa_cons (pe_un un_neg pe_int) (pa_cons pe_int pa_nil))) (pg_name (i := 2) sc_l_are_alike.nd rfl (.inr rfl))
      (pss_one (ps_if (pt_cmpR (op_neD (hr.mono (Nat.zero_le _)).units) (pe_lc (own := [("_law_y", 3)]) (g := gName 3)  rfl sc_l_are_alike.nd (pi_range2 (by rfl) T.z_range (pa_cons (pe_un un_neg pe_int) (pa_cons pe_int pa_nil))) (blkOk_by (own := [("_law_y", 3)]) (N := ["_law_first", "_law_last", "_law_x", "_law_y"]) (sc := defScope s_l_are_alike) (by decide +kernel)) (fun _ _ _ _ _ => (pg_name (i := 3) sc_l_are_alike.nd rfl (.inl rfl))) (fun _ _ _ _ _ => (pts_one (pt_cmpR (kEqD (K := K) (hr.mono (Nat.zero_le _)).units) (pe_call (ok_l_between T) (hr.mono (by decide)) (by rfl) T.g_l_between T.F_l_between.kp T.b_l_between .nil pass0 (pa_cons (pe_tup (pa_cons (pv 2) (pa_cons (pv 3) (pa_cons pe_int pa_nil)))) (pa_cons (pv 0) pa_nil))) (pv 1) (nomark _)))) (fun _ _ _ _ _ => (pv 3))) (pe_lst pa_nil) (nomark _))
      (pss_one (ps_ret pe_bl)) pss_nil)))
      (pss_one (ps_ret pe_bl)))), ?_⟩
  refine ⟨_, rfl, 2, rfl, sl2 hM h1 fun r1 M1 H1 g1 k1 => ?_⟩
  refine ⟨_, rfl, 2, rfl, sl2 g1.inn (h2.mono g1.ex) fun r2 M2 H2 g2 k2 => ?_⟩
  refine ⟨_, _, ((k1.mono g2.ex).mono g2.inn).dp, (k2.mono g2.inn).dp, rfl, rfl, _, rfl, ?_⟩
  rw [eqv_2]
  replace g1 := g1.trans g2
  refine ite2 (fun e => ?_) (fun e => ?_)
  · have e1 : ¬ (s.1 = t.1 ∧ s.2.1 = t.2.1) := fun z => by rw [decide_eq_true z] at e; cases e
    refine q M2 H2 false g1 ⟨fun z => absurd z (by decide), fun ⟨c, z⟩ => absurd ?_ e1⟩
    rw [bet_eq] at z
    rw [← z]
    exact ⟨rfl, rfl⟩
  have e1 : s.1 = t.1 ∧ s.2.1 = t.2.1 := Classical.byContradiction fun z => e (by rw [decide_eq_false z]; rfl)
  refine ⟨_, rfl, -8, 9, rfl, ⟨by decide, by decide, by decide, by decide⟩, ?_⟩
  refine for_range (lo := -8) (n := 17) (fun i σ H' => ∃ M' y, σ = [some x1, some x2, y, none] ∧ Gr M H M' H' ∧ ∀ j k : Nat, j < i → k < 41 → betT (-8 + (j : Int), -20 + (k : Int), 0) s ≠ t) ⟨M2, none, rfl, g1, fun _ _ h => absurd h (Nat.not_lt_zero _)⟩ ?_ ?_
  · rintro i σ H0 hi ⟨M0, y, rfl, g, none_⟩
    refine ⟨_, rfl, -20, 21, rfl, ⟨by decide, by decide, by decide, by decide⟩, fun D nD => ?_⟩
    refine lc_range (lo := -20) (n := 41) (fun k H' => ∃ M' l, Build M0 H0 D (l.map V.int) M' H' ∧ l.length ≤ k ∧ ((l = []) ↔ ∀ k' : Nat, k' < k → betT (-8 + (i : Int), -20 + (k' : Int), 0) s ≠ t)) ⟨M0, [], Build.start g.inn nD, Nat.le_refl _, ⟨fun _ _ h => absurd h (Nat.not_lt_zero _), fun _ => rfl⟩⟩ ?_ ?_
    · rintro k H3 hk ⟨M3, l, b, ll, hl⟩
      refine ⟨rfl, ?_⟩
      refine ⟨_, rfl, _, rfl, ?_⟩
      refine ⟨szL rfl, fun p4 pn4 => ?_⟩
      generalize e4 : upd H3 p4 _ = H4
      obtain ⟨M4, g4, hp4⟩ := new_of e4 b.inn pn4
      have k4 : TripAt M4 (.ref p4) (-8 + (i : Int), -20 + (k : Int), 0) := ⟨p4, rfl, hp4⟩
      have b4 := b.grow g4
      have c4 : B (10 ^ 102) ((-8 + (i : Int), -20 + (k : Int), 0) : T3) := B.up (n := 100) ⟨by simp only; omega, by simp only; omega, Nat.zero_le _⟩ (by decide +kernel)
      refine ⟨_, rfl, _, _, rfl, M4, _, s, b4.inn, k4, (h1.mono g.ex).mono b4.ex, c4, b1.up (by decide +kernel), fun r5 M5 H5 g5 k5 => ?_⟩
      have b5 := b4.grow g5
      refine ⟨_, rfl, _, _, (k5.mono b5.inn).dp, (((h2.mono g.ex).mono b5.ex).mono b5.inn).dp, sh_dT _, sh_dT _, _, rfl, ?_⟩
      rw [eqv_dT]
      refine ite2 (fun e => ?_) (fun e => ?_)
      · have e2 := of_decide_eq_true e
        refine ⟨_, rfl, _, b5.at_, ?_, M5, l ++ [-20 + (k : Int)], ?_, ?_, ?_⟩
        · rw [List.length_map]
          exact small1000 (by omega)
        · rw [List.map_append]
          exact b5.push _
        · rw [List.length_append]
          show l.length + 1 ≤ k + 1
          omega
        · constructor
          · intro z
            simp at z
          · intro z
            exact absurd e2 (z k (Nat.lt_succ_self _))
      · have e2 : ¬ betT (-8 + (i : Int), -20 + (k : Int), 0) s = t := fun z => e (decide_eq_true z)
        refine ⟨M5, l, b5, by omega, ?_⟩
        rw [hl]
        constructor
        · intro z k' hk'
          by_cases e3 : k' = k
          · rw [e3]; exact e2
          · exact z k' (by omega)
        · intro z k' hk'
          exact z k' (by omega)
    · rintro H3 ⟨M3, l, b, ll, hl⟩
      obtain ⟨M4, g4, hD, _⟩ := b.done
      replace g := g.trans g4
      refine ⟨szL rfl, fun p5 pn5 => ?_⟩
      generalize e5 : upd H3 p5 _ = H5
      obtain ⟨M5, g5, hp5⟩ := new_of e5 g4.inn pn5
      replace g := g.trans g5
      refine ⟨_, _, dp_ints (g5.inn _ _ (g5.ex _ _ hD)), dp_ints (l := []) (g5.inn _ _ hp5), sh_ints _, rfl, _, rfl, ?_⟩
      have ev : PyData.eqv (dIs l) (dIs []) = l.isEmpty := eqv_ints l
      rw [ev]
      refine ite2 (fun e => ?_) (fun e => ?_)
      · refine q M5 H5 true g ⟨fun _ => Classical.byContradiction fun z => ?_, fun _ => rfl⟩
        have : l = [] := hl.mpr fun k' _ h => z ⟨_, h⟩
        rw [this] at e
        cases e
      · have : l = [] := by
          cases l with
          | nil => rfl
          | cons _ _ => exact absurd rfl e
        have no := hl.mp this
        refine ⟨M5, _, rfl, g, fun j k hj hk => ?_⟩
        by_cases e3 : j = i
        · rw [e3]; exact no k hk
        · exact none_ j k (by omega) hk
  · rintro σ H' ⟨M', y, rfl, g, none_⟩
    refine q M' H' false g ⟨fun z => absurd z (by decide), fun ⟨c, z⟩ => ?_⟩
    rw [bet_eq] at z
    have z3 : s.2.2 + c.1 * s.2.1 - s.1 * c.2.1 = t.2.2 := by rw [← z]
    obtain ⟨j, k, hj, hk, e2⟩ := few (x := c.1) (y := c.2.1) b1.1 b1.2.1 bd (by omega)
    refine absurd ?_ (none_ j k hj hk)
    rw [bet_eq]
    obtain ⟨x', y', z'⟩ := t
    simp only at e1 e2 bd ⊢
    simp only [Prod.mk.injEq]
    exact ⟨e1.1, e1.2, by omega⟩
end

end K64

namespace K64
open PySem PySem.Spec PyProof.Rows L2 Own
section
variable {P : Program} {w : World} {K : PySem.W.Frag} {mg : Str → Option Value} {base : Heap} {a : Ad}
theorem dpb {M : Hp} (b : Bool) : Dp K M (.bl b) (.bool b) := .bl b
theorem bet_back {s t : T3} : (∃ c, betT c t = s) ↔ ∃ c, betT c s = t := by
  have one : ∀ s t : T3, (∃ c, betT c s = t) → ∃ c, betT c t = s := by
    rintro s t ⟨c, h⟩
    refine ⟨(0 - c.1, 0 - c.2.1, 0), ?_⟩
    rw [← h, bet_eq, bet_eq]
    obtain ⟨x, y, z⟩ := s
    simp only [Prod.mk.injEq, true_and]
    grind
  exact ⟨one t s, one s t⟩
/-- one row of what is shown -/
def Way (C : Addr) (n : Nat) (d : Bool) (M : Hp) (x : V) : Prop := ∃ p u b g s t o, x = .ref p ∧ M p = some (.tup [u, b, g]) ∧ OptM C M u o ∧ TripAt M b s ∧ TripAt M g t ∧ Lnk n s t o ∧ B n s ∧ (d = true ↔ ∃ c, betT c s = t)
theorem Way.mono {C : Addr} {n : Nat} {d : Bool} {M M1 : Hp} {x : V} (h : Way C n d M x) (e : Same M M1) : Way C n d M1 x := by
  obtain ⟨p, u, b, g, s, t, o, r, h, k1, k2, k3, z⟩ := h
  exact ⟨p, u, b, g, s, t, o, r, e _ _ h, k1.mono e, k2.mono e, k3.mono e, z⟩
def spAlikeRight : Sp := sp3 fun x y z H Q => ∃ M n s t d, Same M H ∧ TripAt M x s ∧ TripAt M y t ∧ z = .bl d ∧ B n s ∧ B n t ∧ n ≤ 10 ^ 50 ∧ (d = true ↔ ∃ c, betT c s = t) ∧ Say M H true Q
theorem ok_l_alike_right (T : Txt K mg a) : FnG P w K mg base 9 a.f_l_alike_right a.d_l_alike_right ["_law_first", "_law_last", "_law_due"] spAlikeRight := by
  refine okG T.F_l_alike_right sc_l_alike_right (len3 rfl) (fun cdv A outer s H vs Q E hg hr h => ?_)
  obtain ⟨x0, y0, _, rfl, M, n, s, t, d, hM, first, last, rfl, b1, b2, hn, due, q⟩ := h
  have hn2 : n ≤ 10 ^ 120 := Nat.le_trans hn (by decide +kernel)
  have s1 : Sm s := by
    have z : n < 10 ^ 300 := Nat.lt_of_le_of_lt hn (by decide +kernel)
    exact ⟨Nat.lt_of_le_of_lt b1.1 z, Nat.lt_of_le_of_lt b1.2.1 z, Nat.lt_of_le_of_lt b1.2.2 z⟩
  have s2 : Sm t := by
    have z : n < 10 ^ 300 := Nat.lt_of_le_of_lt hn (by decide +kernel)
    exact ⟨Nat.lt_of_le_of_lt b2.1 z, Nat.lt_of_le_of_lt b2.2.1 z, Nat.lt_of_le_of_lt b2.2.2 z⟩
  have due2 : d = true ↔ ∃ c, betT c t = s := due.trans bet_back.symm
  refine ⟨_, (pss_cons (ps_par (by rfl) sc_l_alike_right.nd (i := 3) (j := 4) rfl rfl (by decide) rfl rfl (pa_cons (pe_call (ok_l_move T) (hr.mono (by decide)) (by rfl) T.g_l_move T.F_l_move.kp T.b_l_move .nil pass0 (pa_cons (pv 0) pa_nil)) (pa_cons (pe_call (ok_l_move T) (hr.mono (by decide)) (by rfl) T.g_l_move T.F_l_move.kp T.b_l_move .nil pass0 (pa_cons (pv 1) pa_nil)) pa_nil)) (by rfl))
      (pss_cons (ps_if (pt_cmpR op_ne (pe_callB (call_repr hg (hr.mono (Nat.zero_le _)).units) (by rfl) T.z_repr (by decide +kernel) (pa_cons (pe_lst (pa_cons (pe_call (ok_is_move_alike T) (hr.mono (by decide)) (by rfl) T.g_is_move_alike T.F_is_move_alike.kp T.b_is_move_alike .nil pass0 (pa_cons (pv 3) (pa_cons (pv 4) pa_nil))) (pa_cons (pe_callK0 (ok_is_move_alike T) (hr.mono (by decide)) (by rfl) T.g_is_move_alike T.F_is_move_alike.kp T.k_is_move_alike pass0 (pk_cons (pv 3) (pk_cons (pv 4) pk_nil))) pa_nil))) pa_nil)) (pe_callB (call_repr hg (hr.mono (Nat.zero_le _)).units) (by rfl) T.z_repr (by decide +kernel) (pa_cons (pe_lst (pa_cons (pv 2) (pa_cons (pv 2) pa_nil))) pa_nil)) (nomark _))
      (pss_one (ps_ret pe_bl)) pss_nil)
      (pss_cons (ps_set (i := 5) sc_l_alike_right.nd rfl (.inl rfl) (pe_lst (pa_cons (pe_tup (pa_cons (pe_call (ok_move_alike T) (hr.mono (by decide)) (by rfl) T.g_move_alike T.F_move_alike.kp T.b_move_alike .nil pass0 (pa_cons (pv 3) (pa_cons (pv 4) pa_nil))) (pa_cons (pv 0) (pa_cons (pv 1) pa_nil)))) (pa_cons (pe_tup (pa_cons (pe_callK0 (ok_move_alike T) (hr.mono (by decide)) (by rfl) T.g_move_alike T.F_move_alike.kp T.k_move_alike pass0 (pk_cons (pv 3) (pk_cons (pv 4) pk_nil))) (pa_cons (pv 1) (pa_cons (pv 0) pa_nil)))) pa_nil))))
      (pss_cons (ps_for PassesOwn.never rfl (pi_list (pv 5)) (pg_tup (by rfl) (pgs_cons (pg_name (i := 6) sc_l_alike_right.nd rfl (.inl rfl)) (pgs_cons (pg_name (i := 7) sc_l_alike_right.nd rfl (.inl rfl)) (pgs_cons (pg_name (i := 8) sc_l_alike_right.nd rfl (.inl rfl)) pgs_nil))))
      (pss_cons (ps_if (pt_cmpR op_ne (pe_cmpR op_notN (pv 6) pe_non (nomark _)) (pv 2) (nomark _))
      (pss_one (ps_ret pe_bl)) pss_nil)
      (pss_one (ps_if (PW.pt (pw_and (pt_val (pv 2)) (pw_and1 (pt_cmpR (op_neD (hr.mono (Nat.zero_le _)).units) (pe_call (ok_l_between T) (hr.mono (by decide)) (by rfl) T.g_l_between T.F_l_between.kp T.b_l_between .nil pass0 (pa_cons (pe_call (ok_l_three T) (hr.mono (by decide)) (by rfl) T.g_l_three T.F_l_three.kp T.b_l_three .nil pass0 (pa_cons (pv 6) pa_nil)) (pa_cons (pv 7) pa_nil))) (pv 8) (nomark _)))))
      (pss_one (ps_ret pe_bl)) pss_nil))))
      (pss_cons (ps_set (i := 9) sc_l_alike_right.nd rfl (.inl rfl) (pe_lst (pa_cons (pe_call (ok_do_moves_commute T) (hr.mono (by decide)) (by rfl) T.g_do_moves_commute T.F_do_moves_commute.kp T.b_do_moves_commute .nil pass0 (pa_cons (pv 3) (pa_cons (pv 4) pa_nil))) (pa_cons (pe_callK0 (ok_do_moves_commute T) (hr.mono (by decide)) (by rfl) T.g_do_moves_commute T.F_do_moves_commute.kp T.k_do_moves_commute pass0 (pk_cons (pv 3) (pk_cons (pv 4) pk_nil))) pa_nil))))
      (pss_one (ps_ret (pe_cmpR op_eq (pe_callB (call_repr hg (hr.mono (Nat.zero_le _)).units) (by rfl) T.z_repr (by decide +kernel) (pa_cons (pv 9) pa_nil)) (pe_callB (call_repr hg (hr.mono (Nat.zero_le _)).units) (by rfl) T.z_repr (by decide +kernel) (pa_cons (pe_op op_rep (pe_lst (pa_cons (pe_cmpR (op_eqD (hr.mono (Nat.zero_le _)).units) (pe_call (ok_l_put T) (hr.mono (by decide)) (by rfl) T.g_l_put T.F_l_put.kp T.b_l_put .nil pass0 (pa_cons (pv 0) (pa_cons (pv 1) pa_nil))) (pe_call (ok_l_put T) (hr.mono (by decide)) (by rfl) T.g_l_put T.F_l_put.kp T.b_l_put .nil pass0 (pa_cons (pv 1) (pa_cons (pv 0) pa_nil))) (nomark _)) pa_nil)) pe_int) pa_nil)) (nomark _))))))))), ?_⟩
  refine ⟨_, rfl, _, rfl, M, s, hM, first, fun r1 M1 H1 g1 made => ?_⟩
  replace first := first.mono g1.ex
  replace last := last.mono g1.ex
  refine ⟨_, rfl, _, rfl, M1, t, g1.inn, last, fun r2 M2 H2 g2 mate => ⟨_, _, rfl, ?_⟩⟩
  replace first := first.mono g2.ex
  replace last := last.mono g2.ex
  replace made := made.mono g2.ex
  -- repr of likeness
  refine ⟨_, rfl, _, rfl, _, _, rfl, M2, n, s, t, g2.inn, made, mate, b1, b2, hn2, fun M3 H3 v3 g3 e3 => ?_⟩
  replace first := first.mono g3.ex
  replace last := last.mono g3.ex
  replace made := made.mono g3.ex
  replace mate := mate.mono g3.ex
  refine ⟨_, rfl, _, rfl, _, _, rfl, M3, n, t, s, g3.inn, mate, made, b2, b1, hn2, fun M4 H4 v4 g4 e4 => ?_⟩
  replace first := first.mono g4.ex
  replace last := last.mono g4.ex
  replace made := made.mono g4.ex
  replace mate := mate.mono g4.ex
  have f3 : v3 = d := Bool.eq_iff_iff.mpr (e3.trans due.symm)
  have f4 : v4 = d := Bool.eq_iff_iff.mpr (e4.trans due2.symm)
  subst f3
  subst f4
  refine ⟨szL rfl, fun p5 pn5 => ?_⟩
  generalize e5 : upd H4 p5 _ = H5
  obtain ⟨M5, g5, hp5⟩ := new_of e5 g4.inn pn5
  replace first := first.mono g5.ex
  replace last := last.mono g5.ex
  replace made := made.mono g5.ex
  replace mate := mate.mono g5.ex
  refine ⟨_, _, rfl, dp2 (g5.inn _ _ hp5) (dpb _) (dpb _), ok2 trivial trivial, rfl, rfl, ⟨_, rfl⟩, ?_⟩
  refine ⟨_, rfl, _, rfl, ?_⟩
  refine ⟨szL rfl, fun p6 pn6 => ?_⟩
  generalize e6 : upd H5 p6 _ = H6
  obtain ⟨M6, g6, hp6⟩ := new_of e6 g5.inn pn6
  replace first := first.mono g6.ex
  replace last := last.mono g6.ex
  replace made := made.mono g6.ex
  replace mate := mate.mono g6.ex
  refine ⟨_, _, rfl, dp2 (g6.inn _ _ hp6) (dpb _) (dpb _), ok2 trivial trivial, rfl, rfl, ⟨_, rfl⟩, rfl, _, rfl, iteNS rfl ?_⟩
  -- what shows it
  refine ⟨_, rfl, _, rfl, _, _, rfl, M6, n, s, t, g6.inn, made, mate, b1, b2, hn2, fun r7 M7 H7 o7 g7 k7 l7 => ?_⟩
  replace first := first.mono g7.ex
  replace last := last.mono g7.ex
  replace made := made.mono g7.ex
  replace mate := mate.mono g7.ex
  refine ⟨_, rfl, _, rfl, ?_⟩
  refine ⟨szL rfl, fun p8 pn8 => ?_⟩
  generalize e8 : upd H7 p8 _ = H8
  obtain ⟨M8, g8, hp8⟩ := new_of e8 g7.inn pn8
  replace first := first.mono g8.ex
  replace last := last.mono g8.ex
  replace made := made.mono g8.ex
  replace mate := mate.mono g8.ex
  replace k7 := k7.mono g8.ex
  have w8 : Way a.C_Move n v4 M8 (.ref p8) := ⟨p8, r7, x0, y0, s, t, o7, rfl, hp8, k7, first, last, l7, b1, due⟩
  refine ⟨_, rfl, _, rfl, _, _, rfl, M8, n, t, s, g8.inn, mate, made, b2, b1, hn2, fun r9 M9 H9 o9 g9 k9 l9 => ?_⟩
  replace first := first.mono g9.ex
  replace last := last.mono g9.ex
  replace made := made.mono g9.ex
  replace mate := mate.mono g9.ex
  replace w8 := w8.mono g9.ex
  refine ⟨_, rfl, _, rfl, ?_⟩
  refine ⟨szL rfl, fun p10 pn10 => ?_⟩
  generalize e10 : upd H9 p10 _ = H10
  obtain ⟨M10, g10, hp10⟩ := new_of e10 g9.inn pn10
  replace first := first.mono g10.ex
  replace last := last.mono g10.ex
  replace made := made.mono g10.ex
  replace mate := mate.mono g10.ex
  replace w8 := w8.mono g10.ex
  replace k9 := k9.mono g10.ex
  have w10 : Way a.C_Move n v4 M10 (.ref p10) := ⟨p10, r9, y0, x0, t, s, o9, rfl, hp10, k9, last, first, l9, b2, due2⟩
  refine ⟨szL rfl, fun p11 pn11 => ?_⟩
  generalize e11 : upd H10 p11 _ = H11
  obtain ⟨M11, g11, hp11⟩ := new_of e11 g10.inn pn11
  have ls : At M11 p11 (.lst [.ref p8, .ref p10]) := hp11
  replace first := first.mono g11.ex
  replace last := last.mono g11.ex
  replace made := made.mono g11.ex
  replace mate := mate.mono g11.ex
  replace w8 := w8.mono g11.ex
  replace w10 := w10.mono g11.ex
  have g011 := (((((((((g1.trans g2).trans g3).trans g4).trans g5).trans g6).trans g7).trans g8).trans g9).trans g10).trans g11
  refine ⟨_, rfl, p11, rfl, ⟨_, SqL.of (g11.inn _ _ ls)⟩, ?_⟩
  refine for_list (xs := [.ref p8, .ref p10]) (fun i σ H' => ∃ M' y1 y2 y3, σ = [some x0, some y0, some (.bl v4), some r1, some r2, some (.ref p11), y1, y2, y3, none] ∧ Gr M11 H11 M' H') ⟨M11, none, none, none, rfl, Gr.refl g11.inn⟩ ?_ ?_ ?_
  · rintro i σ H' hi ⟨M', y1, y2, y3, rfl, g⟩
    exact SqL.of (g.inn _ _ (g.ex _ _ ls))
  · rintro i x σ H' hx ⟨M', y1, y2, y3, rfl, g⟩
    have wx : Way a.C_Move n v4 M' x := by
      match i, hx with
      | 0, hx => cases hx; exact w8.mono g.ex
      | 1, hx => cases hx; exact w10.mono g.ex
      | i + 2, hx => simp at hx
    obtain ⟨px, u, xb, xg, sb, sg, o, rfl, hpx, ko, kb, kg, lk, bb, db⟩ := wx
    refine ⟨px, _, rfl, SqT.of (g.inn _ _ hpx), rfl, _, _, rfl, _, _, rfl, _, _, rfl, rfl, ?_⟩
    refine ⟨_, rfl, rfl, _, rfl, rfl, _, rfl, ?_⟩
    rw [optM_non ko]
    have eo : (!o.isNone) = v4 := Bool.eq_iff_iff.mpr (lk.iff.trans db.symm)
    rw [eo]
    refine iteNS rfl ?_
    cases o with
    | none =>
      subst eo
      exact ⟨_, rfl, _, rfl, iteF (iteF ⟨M', _, _, _, rfl, g⟩)⟩
    | some c =>
      subst eo
      obtain ⟨bc, cc⟩ := lk.yes c rfl
      have cb : B (10 ^ 102) c := by
        have z : 2 * n * (n + 1) ≤ 10 ^ 102 := Nat.le_trans (Nat.mul_le_mul (Nat.mul_le_mul_left 2 hn) (Nat.succ_le_succ hn)) (by decide +kernel)
        exact ⟨Nat.le_trans cc.1 z, Nat.le_trans cc.2.1 z, Nat.le_trans cc.2.2 z⟩
      have sb6 : B (10 ^ 60) sb := by
        have z : n ≤ 10 ^ 60 := Nat.le_trans hn (by decide +kernel)
        exact ⟨Nat.le_trans bb.1 z, Nat.le_trans bb.2.1 z, Nat.le_trans bb.2.2 z⟩
      refine ⟨_, rfl, _, rfl, iteT ?_⟩
      refine ⟨_, rfl, _, rfl, M', c, g.inn, ko, fun r12 M12 H12 g12 k12 => ?_⟩
      refine ⟨_, rfl, _, _, rfl, M12, c, sb, g12.inn, k12, kb.mono g12.ex, cb, sb6, fun r13 M13 H13 g13 k13 => ?_⟩
      refine ⟨_, rfl, _, _, (k13.mono g13.inn).dp, (((kg.mono g12.ex).mono g13.ex).mono g13.inn).dp, sh_dT _, sh_dT _, _, rfl, ?_⟩
      rw [eqv_dT, decide_eq_true bc]
      exact iteF ⟨M13, _, _, _, rfl, (g.trans g12).trans g13⟩
  · rintro σ H' ⟨M', y1, y2, y3, rfl, g⟩
    replace first := first.mono g.ex
    replace last := last.mono g.ex
    replace made := made.mono g.ex
    replace mate := mate.mono g.ex
    refine ⟨_, rfl, _, rfl, _, _, rfl, M', s, t, g.inn, made, mate, s1, s2, fun M14 H14 g14 => ?_⟩
    replace first := first.mono g14.ex
    replace last := last.mono g14.ex
    replace made := made.mono g14.ex
    replace mate := mate.mono g14.ex
    refine ⟨_, rfl, _, rfl, _, _, rfl, M14, t, s, g14.inn, mate, made, s2, s1, fun M15 H15 g15 => ?_⟩
    replace first := first.mono g15.ex
    replace last := last.mono g15.ex
    refine ⟨szL rfl, fun p16 pn16 => ?_⟩
    generalize e16 : upd H15 p16 _ = H16
    obtain ⟨M16, g16, hp16⟩ := new_of e16 g15.inn pn16
    replace first := first.mono g16.ex
    replace last := last.mono g16.ex
    have sym : decide (putT t s = putT s t) = decide (putT s t = putT t s) := by
      by_cases h : putT s t = putT t s
      · rw [decide_eq_true h, decide_eq_true h.symm]
      · rw [decide_eq_false h, decide_eq_false (fun z => h z.symm)]
    rw [sym] at hp16
    refine ⟨_, rfl, _, _, rfl, dp2 (g16.inn _ _ hp16) (dpb _) (dpb _), ok2 trivial trivial, rfl, rfl, ⟨_, rfl⟩, ?_⟩
    refine ⟨_, rfl, _, rfl, _, _, rfl, M16, s, t, g16.inn, first, last, s1, s2, fun r17 M17 H17 g17 k17 => ?_⟩
    replace first := first.mono g17.ex
    replace last := last.mono g17.ex
    refine ⟨_, rfl, _, rfl, _, _, rfl, M17, t, s, g17.inn, last, first, s2, s1, fun r18 M18 H18 g18 k18 => ?_⟩
    replace k17 := k17.mono g18.ex
    refine ⟨_, _, (k17.mono g18.inn).dp, (k18.mono g18.inn).dp, sh_dT _, sh_dT _, ?_⟩
    rw [eqv_dT]
    refine ⟨szL rfl, fun p19 pn19 => ?_⟩
    generalize e19 : upd H18 p19 _ = H19
    obtain ⟨M19, g19, hp19⟩ := new_of e19 g18.inn pn19
    refine ⟨p19, 2, _, rfl, rfl, g19.inn _ _ hp19, by decide, by decide, (by show 1 * 2 ≤ sizeLine; rw [sizeLine_eq]; decide), fun p20 pn20 => ?_⟩
    generalize e20 : upd H19 p20 _ = H20
    obtain ⟨M20, g20, hp20⟩ := new_of e20 g19.inn pn20
    refine ⟨_, _, rfl, dp2 (g20.inn _ _ hp20) (dpb _) (dpb _), ok2 trivial trivial, rfl, rfl, ⟨_, rfl⟩, rfl, ?_⟩
    refine bl_refl ?_
    exact q M20 H20 ((((((((g011.trans g).trans g14).trans g15).trans g16).trans g17).trans g18).trans g19).trans g20)
end

end K64

namespace K64
open PySem PySem.Spec PyProof.Rows L2 Own
section
variable {P : Program} {w : World} {K : PySem.W.Frag} {mg : Str → Option Value} {base : Heap} {a : Ad}
/-! ### roots -/
theorem root_pow {c : T3} {m : Int} (hm : 1 ≤ m) : rootT (powT c m) m = some c := by
  obtain ⟨x, y, z⟩ := c
  have m0 : m ≠ 0 := by omega
  have e1 : x * m % m = 0 := Int.mul_emod_left _ _
  have e2 : y * m % m = 0 := Int.mul_emod_left _ _
  have e3 : x * m / m = x := Int.mul_ediv_cancel _ m0
  have e4 : y * m / m = y := Int.mul_ediv_cancel _ m0
  have e5 : leftT (powT (x, y, z) m) m = z * m := by
    simp only [leftT, powT, e3, e4]
    omega
  unfold rootT
  rw [e5]
  simp only [powT, e1, e2, e3, e4]
  rw [if_neg (by simp), if_neg (by simp), if_pos (Int.mul_emod_left _ _), Int.mul_ediv_cancel _ m0]
theorem root_is {s c : T3} {m : Int} (hm : 1 ≤ m) (h : rootT s m = some c) : powT c m = s := by
  obtain ⟨x, y, z⟩ := s
  unfold rootT at h
  split at h
  · cases h
  · rename_i h1
    split at h
    · cases h
    · rename_i h2
      split at h
      · rename_i h3
        cases h
        have e1 : x / m * m = x := Int.ediv_mul_cancel (Int.dvd_of_emod_eq_zero (Classical.byContradiction fun z => h1 z))
        have e2 : y / m * m = y := Int.ediv_mul_cancel (Int.dvd_of_emod_eq_zero (Classical.byContradiction fun z => h2 z))
        have e3 := Int.ediv_mul_cancel (Int.dvd_of_emod_eq_zero h3)
        simp only [powT, e1, e2, e3, Prod.mk.injEq, true_and]
        simp only [leftT]
        omega
      · cases h
theorem pow_inj {c c' : T3} {m : Int} (hm : 1 ≤ m) (h : powT c m = powT c' m) : c = c' := by
  have e := root_pow (c := c) hm
  rw [h, root_pow hm] at e
  exact (Option.some.inj e).symm
/-- small enough that few show it -/
def Rt (t : T3) (m : Int) : Prop := B (10 ^ 4) t ∧ ∀ c, rootT t m = some c → c.1.natAbs ≤ 4 ∧ c.2.1.natAbs ≤ 4 ∧ c.2.2.natAbs ≤ 60
theorem rt_small {t : T3} {m : Int} (h : B 4 t) (m1 : 1 ≤ m) (m5 : m ≤ 5) : Rt t m := by
  refine ⟨h.up (by decide), fun c hc => ?_⟩
  have e := root_is m1 hc
  obtain ⟨x, y, z⟩ := c
  obtain ⟨h1, h2, h3⟩ := h
  rw [← e] at h1 h2 h3
  simp only [powT] at h1 h2 h3 ⊢
  have hm : m = 1 ∨ m = 2 ∨ m = 3 ∨ m = 4 ∨ m = 5 := by omega
  have t1 : triI 1 = 0 := by decide
  have t2 : triI 2 = 1 := by decide
  have t3 : triI 3 = 3 := by decide
  have t4 : triI 4 = 6 := by decide
  have t5 : triI 5 = 10 := by decide
  have q : ∀ n : Nat, x.natAbs ≤ n → y.natAbs ≤ n → (x * y).natAbs ≤ n * n := fun n a b => na_mul a b
  rcases hm with rfl | rfl | rfl | rfl | rfl
  · rw [t1] at h3
    refine ⟨by omega, by omega, ?_⟩
    simp at h3
    omega
  · have := q 2 (by omega) (by omega)
    rw [t2, Int.mul_assoc] at h3
    exact ⟨by omega, by omega, by omega⟩
  · have := q 1 (by omega) (by omega)
    rw [t3, Int.mul_assoc] at h3
    exact ⟨by omega, by omega, by omega⟩
  · have := q 1 (by omega) (by omega)
    rw [t4, Int.mul_assoc] at h3
    exact ⟨by omega, by omega, by omega⟩
  · have := q 0 (by omega) (by omega)
    rw [t5, Int.mul_assoc] at h3
    exact ⟨by omega, by omega, by omega⟩
theorem rt_pow {t : T3} {m : Int} (h : B 2 t) (m1 : 1 ≤ m) (m5 : m ≤ 5) : Rt (powT t m) m := by
  refine ⟨(h.pow (m := 5) (by omega)).up (by decide), fun c hc => ?_⟩
  rw [root_pow m1] at hc
  cases hc
  obtain ⟨h1, h2, h3⟩ := h
  exact ⟨by omega, by omega, by omega⟩
def spHasRoot : Sp := sp2 fun x y H Q => ∃ M s m, Same M H ∧ TripAt M x s ∧ y = .int m ∧ 1 ≤ m ∧ m ≤ 5 ∧ Rt s m ∧ Say M H (rootT s m).isSome Q
theorem ok_l_has_root (T : Txt K mg a) : FnOk P w K mg base CX0 3 a.f_l_has_root a.d_l_has_root ["_law_trip_here", "_law_level"] spHasRoot := by
  refine T.F_l_has_root.ok sc_l_has_root (len2 rfl) (fun cdv A outer s H vs Q E hr h => ?_)
  obtain ⟨x0, _, rfl, M, s, m, hM, here, rfl, m1, m5, rt, q⟩ := h
  refine ⟨_, (pss_cons (ps_for PassesOwn.never rfl (pi_range2 (by rfl) T.z_range (pa_cons (pe_un un_neg pe_int) (pa_cons pe_int pa_nil))) (pg_name (i := 2) sc_l_has_root.nd rfl (.inr rfl))
      (pss_one (ps_for PassesOwn.never rfl (pi_range2 (by rfl) T.z_range (pa_cons (pe_un un_neg pe_int) (pa_cons pe_int pa_nil))) (pg_name (i := 3) sc_l_has_root.nd rfl (.inr rfl))
      (pss_one (ps_if (PW.pt (pw_and (pt_cmpR op_eq (pe_op op_mulW (pv 2) (pv 1)) (pe_ix ix_tup (pv 0) pe_int (fun _ _ => rfl)) (nomark _)) (pw_and1 (pt_cmpR op_eq (pe_op op_mulW (pv 3) (pv 1)) (pe_ix ix_tup (pv 0) pe_int (fun _ _ => rfl)) (nomark _)))))
      (pss_one (ps_ret (pe_cmpR (op_neD (hr.mono (Nat.zero_le _)).units) (pe_lc (own := [("_law_s", 4)]) (g := gName 4)  rfl sc_l_has_root.nd (pi_range2 (by rfl) T.z_range (pa_cons (pe_un un_neg pe_int) (pa_cons pe_int pa_nil))) (blkOk_by (own := [("_law_s", 4)]) (N := ["_law_trip_here", "_law_level", "_law_x", "_law_y", "_law_s"]) (sc := defScope s_l_has_root) (by decide +kernel)) (fun _ _ _ _ _ => (pg_name (i := 4) sc_l_has_root.nd rfl (.inl rfl))) (fun _ _ _ _ _ => (pts_one (pt_cmpR (kEqD (K := K) (hr.mono (Nat.zero_le _)).units) (pe_call (ok_l_power T) (hr.mono (by decide)) (by rfl) T.g_l_power T.F_l_power.kp T.b_l_power .nil pass0 (pa_cons (pe_tup (pa_cons (pv 2) (pa_cons (pv 3) (pa_cons (pv 4) pa_nil)))) (pa_cons (pv 1) pa_nil))) (pv 0) (nomark _)))) (fun _ _ _ _ _ => (pv 4))) (pe_lst pa_nil) (nomark _)))) pss_nil)))))
      (pss_one (ps_ret pe_bl))), ?_⟩
  have mb : m.natAbs < 10 ^ 300 := Nat.lt_of_le_of_lt (show m.natAbs ≤ 5 by omega) (by decide +kernel)
  refine ⟨_, rfl, -4, 5, rfl, ⟨by decide, by decide, by decide, by decide⟩, ?_⟩
  refine for_range (lo := -4) (n := 9) (fun i σ H' => ∃ M' y1 y2, σ = [some x0, some (.int m), y1, y2, none] ∧ Gr M H M' H' ∧ ∀ j k : Nat, j < i → k < 9 → ¬ ((-4 + (j : Int)) * m = s.1 ∧ (-4 + (k : Int)) * m = s.2.1)) ⟨M, none, none, rfl, Gr.refl hM, fun _ _ h => absurd h (Nat.not_lt_zero _)⟩ ?_ ?_
  · rintro i σ H0 hi ⟨M0, y1, y2, rfl, g0, no0⟩
    refine ⟨_, rfl, -4, 5, rfl, ⟨by decide, by decide, by decide, by decide⟩, ?_⟩
    refine for_range (lo := -4) (n := 9) (fun k σ H' => ∃ M' y2, σ = [some x0, some (.int m), some (.int (-4 + (i : Int))), y2, none] ∧ Gr M H M' H' ∧ ∀ k' : Nat, k' < k → ¬ ((-4 + (i : Int)) * m = s.1 ∧ (-4 + (k' : Int)) * m = s.2.1)) ⟨M0, y2, rfl, g0, fun _ h => absurd h (Nat.not_lt_zero _)⟩ ?_ ?_
    · rintro k σ H1 hk ⟨M1, y2, rfl, g1, no1⟩
      have here' := (here.mono g1.ex).mono g1.inn
      have go : ∀ e : ¬ ((-4 + (i : Int)) * m = s.1 ∧ (-4 + (k : Int)) * m = s.2.1), ∀ k' : Nat, k' < k + 1 → ¬ ((-4 + (i : Int)) * m = s.1 ∧ (-4 + (k' : Int)) * m = s.2.1) := by
        intro e k' hk'
        by_cases e3 : k' = k
        · rw [e3]; exact e
        · exact no1 k' (by omega)
      refine ⟨_, rfl, _, rfl, _, _, rfl, rfl, big_mul (Nat.lt_of_le_of_lt (show (-4 + (i : Int)).natAbs ≤ 10 by omega) (by decide +kernel)) mb, _, rfl, rd_t0 here' ⟨rfl, _, rfl, ite2 (fun e => ?_) (fun e => ?_)⟩⟩
      · have e1 : (-4 + (i : Int)) * m = s.1 := V.int.inj (of_decide_eq_true e)
        refine ⟨_, rfl, _, rfl, _, _, rfl, rfl, big_mul (Nat.lt_of_le_of_lt (show (-4 + (k : Int)).natAbs ≤ 10 by omega) (by decide +kernel)) mb, _, rfl, rd_t1 here' ⟨rfl, _, rfl, ite2 (fun e => ?_) (fun e => ?_)⟩⟩
        · have e2 : (-4 + (k : Int)) * m = s.2.1 := V.int.inj (of_decide_eq_true e)
          -- the row of roots
          refine ⟨_, rfl, -60, 61, rfl, ⟨by decide, by decide, by decide, by decide⟩, fun D nD => ?_⟩
          refine lc_range (lo := -60) (n := 121) (fun j H' => ∃ M' l, Build M1 H1 D (l.map V.int) M' H' ∧ l.length ≤ j ∧ ((l = []) ↔ ∀ k' : Nat, k' < j → powT (-4 + (i : Int), -4 + (k : Int), -60 + (k' : Int)) m ≠ s)) ⟨M1, [], Build.start g1.inn nD, Nat.le_refl _, ⟨fun _ _ h => absurd h (Nat.not_lt_zero _), fun _ => rfl⟩⟩ ?_ ?_
          · rintro j H3 hj ⟨M3, l, b, ll, hl⟩
            refine ⟨rfl, ?_⟩
            refine ⟨_, rfl, _, rfl, _, rfl, ?_⟩
            refine ⟨szL rfl, fun p4 pn4 => ?_⟩
            generalize e4 : upd H3 p4 _ = H4
            obtain ⟨M4, g4, hp4⟩ := new_of e4 b.inn pn4
            have k4 : TripAt M4 (.ref p4) (-4 + (i : Int), -4 + (k : Int), -60 + (j : Int)) := ⟨p4, rfl, hp4⟩
            have b4 := b.grow g4
            have c4 : B (10 ^ 40) ((-4 + (i : Int), -4 + (k : Int), -60 + (j : Int)) : T3) := B.up (n := 100) ⟨by simp only; omega, by simp only; omega, by simp only; omega⟩ (by decide +kernel)
            refine ⟨_, rfl, _, _, rfl, M4, _, m, b4.inn, k4, rfl, by omega, Int.le_trans m5 (by decide), c4, fun r5 M5 H5 g5 k5 => ?_⟩
            have b5 := b4.grow g5
            refine ⟨_, rfl, _, _, (k5.mono b5.inn).dp, (((here.mono g1.ex).mono b5.ex).mono b5.inn).dp, sh_dT _, sh_dT _, _, rfl, ?_⟩
            rw [eqv_dT]
            refine ite2 (fun e => ?_) (fun e => ?_)
            · have e2 := of_decide_eq_true e
              refine ⟨_, rfl, _, b5.at_, ?_, M5, l ++ [-60 + (j : Int)], ?_, ?_, ?_⟩
              · rw [List.length_map]
                exact small1000 (by omega)
              · rw [List.map_append]
                exact b5.push _
              · rw [List.length_append]
                show l.length + 1 ≤ j + 1
                omega
              · constructor
                · intro z
                  simp at z
                · intro z
                  exact absurd e2 (z j (Nat.lt_succ_self _))
            · have e2 : ¬ powT (-4 + (i : Int), -4 + (k : Int), -60 + (j : Int)) m = s := fun z => e (decide_eq_true z)
              refine ⟨M5, l, b5, by omega, ?_⟩
              rw [hl]
              constructor
              · intro z k' hk'
                by_cases e3 : k' = j
                · rw [e3]; exact e2
                · exact z k' (by omega)
              · intro z k' hk'
                exact z k' (by omega)
          · rintro H3 ⟨M3, l, b, ll, hl⟩
            obtain ⟨M4, g4, hD, _⟩ := b.done
            refine ⟨szL rfl, fun p5 pn5 => ?_⟩
            generalize e5 : upd H3 p5 _ = H5
            obtain ⟨M5, g5, hp5⟩ := new_of e5 g4.inn pn5
            refine ⟨_, _, dp_ints (g5.inn _ _ (g5.ex _ _ hD)), dp_ints (l := []) (g5.inn _ _ hp5), sh_ints _, rfl, ?_⟩
            have ev : PyData.eqv (dIs l) (dIs []) = l.isEmpty := eqv_ints l
            rw [ev]
            have fin : (!l.isEmpty) = (rootT s m).isSome := by
              cases l with
              | nil =>
                cases z : rootT s m with
                | none => rfl
                | some c =>
                  exfalso
                  have e6 := root_is m1 z
                  obtain ⟨c1, c2, c3⟩ := rt.2 c z
                  have f1 : c.1 = -4 + (i : Int) := by
                    have : c.1 * m = (-4 + (i : Int)) * m := by rw [e1, ← e6]; rfl
                    exact Int.eq_of_mul_eq_mul_right (by omega) this
                  have f2 : c.2.1 = -4 + (k : Int) := by
                    have : c.2.1 * m = (-4 + (k : Int)) * m := by rw [e2, ← e6]; rfl
                    exact Int.eq_of_mul_eq_mul_right (by omega) this
                  refine hl.mp rfl (c.2.2 + 60).toNat (by omega) ?_
                  rw [← f1, ← f2, show -60 + (((c.2.2 + 60).toNat : Nat) : Int) = c.2.2 by omega]
                  exact e6
              | cons u l =>
                obtain ⟨k', z⟩ : ∃ k' : Nat, powT (-4 + (i : Int), -4 + (k : Int), -60 + (k' : Int)) m = s := Classical.byContradiction fun z =>
                  absurd (hl.mpr fun k' _ h => z ⟨k', h⟩) (by simp)
                rw [← z, root_pow m1]
                rfl
            rw [fin]
            exact q M5 H5 ((g1.trans g4).trans g5)
        · have e2 : ¬ (-4 + (k : Int)) * m = s.2.1 := fun z => e (decide_eq_true (congrArg V.int z))
          exact ⟨M1, _, rfl, g1, go fun z => e2 z.2⟩
      · have e1 : ¬ (-4 + (i : Int)) * m = s.1 := fun z => e (decide_eq_true (congrArg V.int z))
        exact ⟨M1, _, rfl, g1, go fun z => e1 z.1⟩
    · rintro σ H1 ⟨M1, y2, rfl, g1, no1⟩
      refine ⟨M1, _, _, rfl, g1, fun j k hj hk => ?_⟩
      by_cases e3 : j = i
      · rw [e3]; exact no1 k hk
      · exact no0 j k (by omega) hk
  · rintro σ H' ⟨M', y1, y2, rfl, g, no0⟩
    have z : (rootT s m).isSome = false := by
      cases z : rootT s m with
      | none => rfl
      | some c =>
        exfalso
        have e6 := root_is m1 z
        obtain ⟨c1, c2, c3⟩ := rt.2 c z
        refine no0 (c.1 + 4).toNat (c.2.1 + 4).toNat (by omega) (by omega) ?_
        rw [show -4 + (((c.1 + 4).toNat : Nat) : Int) = c.1 by omega, show -4 + (((c.2.1 + 4).toNat : Nat) : Int) = c.2.1 by omega, ← e6]
        exact ⟨rfl, rfl⟩
    have q1 := q M' H' g
    rw [z] at q1
    exact q1
end

end K64

namespace K64
open PySem PySem.Spec PyProof.Rows L2 Own
section
variable {P : Program} {w : World} {K : PySem.W.Frag} {mg : Str → Option Value} {base : Heap} {a : Ad}
theorem TripAt.dp2 {M : Hp} {p : Addr} {u v : V} {s t : T3} (h : M p = some (.lst [u, v])) (k1 : TripAt M u s) (k2 : TripAt M v t) : Dp K M (.ref p) (.list [dT s, dT t]) :=
  .lst (SqL.of h) (.cons k1.dp (.cons k2.dp .nil))
theorem eqv_dT2 (s t : T3) : PyData.eqv (.list [dT s, dT t]) (.list [dT s, dT t]) = true := by
  have e : PyData.eqv (.list [dT s, dT t]) (.list [dT s, dT t]) = (PyData.eqv (dT s) (dT s) && (PyData.eqv (dT t) (dT t) && true)) := rfl
  rw [e, eqv_dT, eqv_dT, decide_eq_true rfl, decide_eq_true rfl]
  rfl
theorem eqv_b2 (b : Bool) : PyData.eqv (.list [.bool b, .bool b]) (.list [.bool b, .bool b]) = true := by
  cases b <;> rfl
/-- the slice of two and one more -/
theorem cat3 {M H : Hp} {x y : V} {i j k : Int} {p : Addr} {Q : VK} (hM : Same M H) (h : PairT M x i j) (e : y = .ref p) (hp : M p = some (.tup [.int k])) (q : NewT M H (i, j, k) Q) : rCatT K x y H Q := by
  obtain ⟨p1, rfl, h⟩ := h
  subst e
  refine ⟨p1, p, _, _, rfl, rfl, SqT.of (hM _ _ h), SqT.of (hM _ _ hp), by simp, by rw [sizeLine_eq]; show 2 + 1 ≤ _; decide, fun z => by simp at z, fun _ r hr => ?_⟩
  exact q _ _ _ (gr_new hM hr) ⟨r, rfl, upd_same⟩
theorem root_off {c : T3} {m : Int} (hm : 2 ≤ m) : rootT ((powT c m).1, (powT c m).2.1, (powT c m).2.2 + 1) m = none := by
  cases z : rootT ((powT c m).1, (powT c m).2.1, (powT c m).2.2 + 1) m with
  | none => rfl
  | some d =>
    exfalso
    have e := root_is (by omega) z
    obtain ⟨x, y, z'⟩ := c
    obtain ⟨x', y', z''⟩ := d
    simp only [powT, Prod.mk.injEq] at e
    obtain ⟨e1, e2, e3⟩ := e
    have f1 : x' = x := Int.eq_of_mul_eq_mul_right (by omega) e1
    have f2 : y' = y := Int.eq_of_mul_eq_mul_right (by omega) e2
    subst f1; subst f2
    have e4 : (z'' - z') * m = 1 := by grind
    have e5 : m ∣ 1 := ⟨z'' - z', by rw [Int.mul_comm]; exact e4.symm⟩
    have := Int.le_of_dvd (by decide) e5
    omega
theorem OptM.some {C : Addr} {M : Hp} {x : V} {o : Option T3} {c : T3} (h : OptM C M x o) (e : o = some c) : Mv C M x c := by
  subst e
  exact h
theorem OptM.none {C : Addr} {M : Hp} {x : V} {o : Option T3} (h : OptM C M x o) (e : o = none) : x = .non := by
  subst e
  exact h
def spRootsRight : Sp := sp1 fun x H Q => ∃ v n M, x = .ref v ∧ Vl v n M H ∧ n + 12 < 1000000 ∧ ∀ M' H', Same M M' → Vl v (n + 12) M' H' → Q (.bl true) H'
theorem ok_l_roots_right (T : Txt K mg a) : FnOk P w K mg base CX0 9 a.f_l_roots_right a.d_l_roots_right ["_law_reel_here"] spRootsRight := by
  refine T.F_l_roots_right.ok sc_l_roots_right (len1 rfl) (fun cdv A outer s H vs Q E hr h => ?_)
  obtain ⟨_, rfl, v, n, M, rfl, w, hn, q⟩ := h
  refine ⟨_, (pss_cons (ps_set (i := 1) sc_l_roots_right.nd rfl (.inr rfl) (pe_op op_add pe_int (pe_call (ok_l_wind T) (hr.mono (by decide)) (by rfl) T.g_l_wind T.F_l_wind.kp T.b_l_wind .nil pass0 (pa_cons (pv 0) (pa_cons pe_int pa_nil)))))
      (pss_cons (ps_set (i := 2) sc_l_roots_right.nd rfl (.inl rfl) (pe_call (ok_l_one_of T) (hr.mono (by decide)) (by rfl) T.g_l_one_of T.F_l_one_of.kp T.b_l_one_of .nil pass0 (pa_cons (pv 0) (pa_cons (pe_lst (pa_cons (pe_call (ok_l_trip T) (hr.mono (by decide)) (by rfl) T.g_l_trip T.F_l_trip.kp T.b_l_trip .nil pass0 (pa_cons (pv 0) (pa_cons pe_int pa_nil))) (pa_cons (pe_call (ok_l_power T) (hr.mono (by decide)) (by rfl) T.g_l_power T.F_l_power.kp T.b_l_power .nil pass0 (pa_cons (pe_call (ok_l_trip T) (hr.mono (by decide)) (by rfl) T.g_l_trip T.F_l_trip.kp T.b_l_trip .nil pass0 (pa_cons (pv 0) (pa_cons pe_int pa_nil))) (pa_cons (pv 1) pa_nil))) pa_nil))) pa_nil))))
      (pss_cons (ps_set (i := 3) sc_l_roots_right.nd rfl (.inl rfl) (pe_lst (pa_cons (pe_call (ok_move_root T) (hr.mono (by decide)) (by rfl) T.g_move_root T.F_move_root.kp T.b_move_root .nil pass0 (pa_cons (pe_call (ok_l_move T) (hr.mono (by decide)) (by rfl) T.g_l_move T.F_l_move.kp T.b_l_move .nil pass0 (pa_cons (pv 2) pa_nil)) (pa_cons (pv 1) pa_nil))) (pa_cons (pe_callK0 (ok_move_root T) (hr.mono (by decide)) (by rfl) T.g_move_root T.F_move_root.kp T.k_move_root pass0 (pk_cons (pv 1) (pk_cons (pe_call (ok_l_move T) (hr.mono (by decide)) (by rfl) T.g_l_move T.F_l_move.kp T.b_l_move .nil pass0 (pa_cons (pv 2) pa_nil)) pk_nil))) pa_nil))))
      (pss_cons (ps_set (i := 4) sc_l_roots_right.nd rfl (.inl rfl) (pe_call (ok_l_has_root T) (hr.mono (by decide)) (by rfl) T.g_l_has_root T.F_l_has_root.kp T.b_l_has_root .nil pass0 (pa_cons (pv 2) (pa_cons (pv 1) pa_nil))))
      (pss_cons (ps_if (pt_cmpR (op_neD (hr.mono (Nat.zero_le _)).units) (pe_lc (own := [("_law_each", 8)]) (g := gName 8) (tt := tYes) rfl sc_l_roots_right.nd (pi_list (pv 3)) (blkOk_by (own := [("_law_each", 8)]) (N := ["_law_reel_here", "_law_level", "_law_trip_here", "_law_told", "_law_due", "_law_part", "_law_many", "_law_whole", "_law_each", "_law_number"]) (sc := defScope s_l_roots_right) (by decide +kernel)) (fun _ _ _ _ _ => (pg_name (i := 8) sc_l_roots_right.nd rfl (.inl rfl))) (fun _ _ _ _ _ => pts_nil) (fun _ _ _ _ _ => (pe_cmpR op_notN (pv 8) pe_non (nomark _)))) (pe_lst (pa_cons (pv 4) (pa_cons (pv 4) pa_nil))) (nomark _))
      (pss_one (ps_ret pe_bl)) pss_nil)
      (pss_cons (ps_if (pt_val (pv 4))
      (pss_one (ps_if (pt_cmpR (op_neD (hr.mono (Nat.zero_le _)).units) (pe_lc (own := [("_law_each", 8)]) (g := gName 8) (tt := tYes) rfl sc_l_roots_right.nd (pi_list (pv 3)) (blkOk_by (own := [("_law_each", 8)]) (N := ["_law_reel_here", "_law_level", "_law_trip_here", "_law_told", "_law_due", "_law_part", "_law_many", "_law_whole", "_law_each", "_law_number"]) (sc := defScope s_l_roots_right) (by decide +kernel)) (fun _ _ _ _ _ => (pg_name (i := 8) sc_l_roots_right.nd rfl (.inl rfl))) (fun _ _ _ _ _ => pts_nil) (fun _ _ _ _ _ => (pe_call (ok_l_power T) (hr.mono (by decide)) (by rfl) T.g_l_power T.F_l_power.kp T.b_l_power .nil pass0 (pa_cons (pe_call (ok_l_three T) (hr.mono (by decide)) (by rfl) T.g_l_three T.F_l_three.kp T.b_l_three .nil pass0 (pa_cons (pv 8) pa_nil)) (pa_cons (pv 1) pa_nil))))) (pe_lst (pa_cons (pv 2) (pa_cons (pv 2) pa_nil))) (nomark _))
      (pss_one (ps_ret pe_bl)) pss_nil)) pss_nil)
      (pss_cons (ps_par (by rfl) sc_l_roots_right.nd (i := 5) (j := 6) rfl rfl (by decide) rfl rfl (pa_cons (pe_callTy call_tuple_of (by rfl) T.z_tuple (by decide +kernel) (pa_cons (pe_lc (own := [("_law_number", 9)]) (g := gName 9) (tt := tYes) rfl sc_l_roots_right.nd (pi_tup (pe_call (ok_l_trip T) (hr.mono (by decide)) (by rfl) T.g_l_trip T.F_l_trip.kp T.b_l_trip .nil pass0 (pa_cons (pv 0) (pa_cons pe_int pa_nil)))) (blkOk_by (own := [("_law_number", 9)]) (N := ["_law_reel_here", "_law_level", "_law_trip_here", "_law_told", "_law_due", "_law_part", "_law_many", "_law_whole", "_law_each", "_law_number"]) (sc := defScope s_l_roots_right) (by decide +kernel)) (fun _ _ _ _ _ => (pg_name (i := 9) sc_l_roots_right.nd rfl (.inl rfl))) (fun _ _ _ _ _ => pts_nil) (fun _ _ _ _ _ => (pe_op op_add (pe_op op_mulW (pv 9) (pe_op op_pow pe_int pe_int)) pe_int))) pa_nil)) (pa_cons (pe_op op_add (pe_op op_pow pe_int pe_int) (pe_call (ok_l_wind T) (hr.mono (by decide)) (by rfl) T.g_l_wind T.F_l_wind.kp T.b_l_wind .nil pass0 (pa_cons (pv 0) (pa_cons pe_int pa_nil)))) pa_nil)) (by rfl))
      (pss_cons (ps_set (i := 7) sc_l_roots_right.nd rfl (.inl rfl) (pe_call (ok_l_power T) (hr.mono (by decide)) (by rfl) T.g_l_power T.F_l_power.kp T.b_l_power .nil pass0 (pa_cons (pv 5) (pa_cons (pv 6) pa_nil))))
      (pss_cons (ps_if (pt_cmpR (op_neOwn T.e_Move (ok_Move_eq T) (hr.mono (by decide)) T.b_Move_eq pass0) (pe_call (ok_move_root T) (hr.mono (by decide)) (by rfl) T.g_move_root T.F_move_root.kp T.b_move_root .nil pass0 (pa_cons (pe_call (ok_l_move T) (hr.mono (by decide)) (by rfl) T.g_l_move T.F_l_move.kp T.b_l_move .nil pass0 (pa_cons (pv 7) pa_nil)) (pa_cons (pv 6) pa_nil))) (pe_call (ok_l_move T) (hr.mono (by decide)) (by rfl) T.g_l_move T.F_l_move.kp T.b_l_move .nil pass0 (pa_cons (pv 5) pa_nil)) (nomark _))
      (pss_one (ps_ret pe_bl)) pss_nil)
      (pss_cons (ps_if (pt_cmpR op_notN (pe_call (ok_move_root T) (hr.mono (by decide)) (by rfl) T.g_move_root T.F_move_root.kp T.b_move_root .nil pass0 (pa_cons (pe_call (ok_l_move T) (hr.mono (by decide)) (by rfl) T.g_l_move T.F_l_move.kp T.b_l_move .nil pass0 (pa_cons (pe_op op_catT (pe_slice sl_tup (pv 7) po_none (po_some pe_int)) (pe_tup (pa_cons (pe_op op_add (pe_ix ix_tup (pv 7) pe_int (fun _ _ => rfl)) pe_int) pa_nil))) pa_nil)) (pa_cons (pv 6) pa_nil))) pe_non (nomark _))
      (pss_one (ps_ret pe_bl)) pss_nil)
      (pss_one (ps_ret (pe_cmpR (op_eqOwn T.e_Move (ok_Move_eq T) (hr.mono (by decide)) T.b_Move_eq pass0) (pe_call (ok_move_root T) (hr.mono (by decide)) (by rfl) T.g_move_root T.F_move_root.kp T.b_move_root .nil pass0 (pa_cons (pe_make T.m_Move (ok_Move_init T) (hr.mono (by decide)) (by rfl) T.g_Move T.b_Move_init .nil pass0 (pa_cons pe_int (pa_cons pe_int (pa_cons pe_int pa_nil)))) (pa_cons (pv 6) pa_nil))) (pe_make T.m_Move (ok_Move_init T) (hr.mono (by decide)) (by rfl) T.g_Move T.b_Move_init .nil pass0 (pa_cons pe_int (pa_cons pe_int (pa_cons pe_int pa_nil)))) (nomark _)))))))))))))), ?_⟩
  refine ⟨_, rfl, _, _, rfl, v, n, M, 5, rfl, rfl, w, by omega, by decide, by decide, fun r1 H1 a1 c1 w1 => ⟨_, _, rfl, rfl, ?_⟩⟩
  obtain ⟨m, em⟩ : ∃ m, m = 1 + r1 := ⟨_, rfl⟩
  have m1 : 1 ≤ m := by omega
  have m5 : m ≤ 5 := by omega
  have m30 : m.natAbs ≤ 10 ^ 30 := Nat.le_trans (show m.natAbs ≤ 5 by omega) (by decide +kernel)
  simp only
  rw [← em]
  clear w
  -- two moves
  refine ⟨_, rfl, _, rfl, _, _, rfl, v, _, M, 4, rfl, rfl, w1, by omega, by decide, by decide, fun r2 M2 H2 t2 e2 w k2 b2 => ?_⟩
  refine ⟨_, rfl, _, _, rfl, v, _, M2, 2, rfl, rfl, w, by omega, by decide, by decide, fun r3 M3 H3 t3 e3 w k3 b3 => ?_⟩
  replace k2 := k2.mono e3
  refine ⟨_, rfl, _, _, rfl, M3, t3, m, w.inn, k3, rfl, by omega, Int.le_trans m5 (by decide), b3.up (by decide +kernel), fun r4 M4 H4 g4 k4 => ?_⟩
  have top : Same M M4 := (e2.trans e3).trans g4.ex
  replace w := w.grow g4
  replace k2 := k2.mono g4.ex
  refine ⟨szL rfl, fun p5 pn5 => ?_⟩
  generalize e5 : upd H4 p5 _ = H5
  obtain ⟨M5, g5, hp5⟩ := new_of e5 w.inn pn5
  replace w := w.grow g5
  replace top := top.trans g5.ex
  replace k2 := k2.mono g5.ex
  replace k4 := k4.mono g5.ex
  refine ⟨_, _, rfl, v, _, M5, p5, _, rfl, rfl, w, by omega, hp5, by show 0 < 2; decide, by show 2 < 1000; decide, fun r6 H6 m6 w => ?_⟩
  obtain ⟨t, here, rt⟩ : ∃ t, TripAt M5 r6 t ∧ Rt t m := by
    simp only [List.mem_cons, List.not_mem_nil, or_false] at m6
    rcases m6 with rfl | rfl
    · exact ⟨t2, k2, rt_small b2 m1 m5⟩
    · exact ⟨_, k4, rt_pow b3 m1 m5⟩
  have bt : B (10 ^ 100) t := rt.1.up (by decide +kernel)
  -- what is told
  refine ⟨_, rfl, _, rfl, M5, t, w.inn, here, fun r7 M7 H7 g7 k7 => ?_⟩
  replace w := w.grow g7
  replace top := top.trans g7.ex
  replace here := here.mono g7.ex
  refine ⟨_, rfl, _, _, rfl, M7, t, m, w.inn, k7, rfl, m1, m30, bt, fun r8 M8 H8 g8 k8 => ?_⟩
  replace w := w.grow g8
  replace top := top.trans g8.ex
  replace here := here.mono g8.ex
  refine ⟨_, rfl, _, rfl, _, rfl, M8, t, w.inn, here, fun r9 M9 H9 g9 k9 => ?_⟩
  replace w := w.grow g9
  replace top := top.trans g9.ex
  replace here := here.mono g9.ex
  replace k8 := k8.mono g9.ex
  refine ⟨_, _, rfl, M9, t, m, w.inn, k9, rfl, m1, m30, bt, fun r10 M10 H10 g10 k10 => ?_⟩
  replace w := w.grow g10
  replace top := top.trans g10.ex
  replace here := here.mono g10.ex
  replace k8 := k8.mono g10.ex
  refine ⟨szL rfl, fun p11 pn11 => ?_⟩
  generalize e11 : upd H10 p11 _ = H11
  obtain ⟨M11, g11, hp11⟩ := new_of e11 w.inn pn11
  have ls : At M11 p11 (.lst [r8, r10]) := hp11
  replace w := w.grow g11
  replace top := top.trans g11.ex
  replace here := here.mono g11.ex
  replace k8 := k8.mono g11.ex
  replace k10 := k10.mono g11.ex
  refine ⟨_, rfl, _, rfl, _, _, rfl, M11, t, m, w.inn, here, rfl, m1, m5, rt, fun M12 H12 g12 => ?_⟩
  replace w := w.grow g12
  replace top := top.trans g12.ex
  replace here := here.mono g12.ex
  replace k8 := k8.mono g12.ex
  replace k10 := k10.mono g12.ex
  replace ls := ls.mono g12.ex
  -- whether something is told
  refine ⟨_, rfl, p11, rfl, ⟨_, SqL.of (w.inn _ _ ls)⟩, fun D nD => ?_⟩
  refine lc_list (xs := [r8, r10]) (fun i H' => ∃ M', Build M12 H12 D ((List.replicate i (rootT t m).isSome).map V.bl) M' H') ⟨M12, Build.start w.inn nD⟩ ?_ ?_ ?_
  · rintro i H' hi ⟨M', b⟩
    exact SqL.of (b.inn _ _ (b.ex _ _ ls))
  · rintro i x H' hx ⟨M', b⟩
    have kx : OptM a.C_Move M' x (rootT t m) := by
      match i, hx with
      | 0, hx => cases hx; exact k8.mono b.ex
      | 1, hx => cases hx; exact k10.mono b.ex
      | i + 2, hx => simp at hx
    have hi : i < 2 := by
      have := (List.getElem?_eq_some_iff.mp hx).1
      exact this
    refine ⟨rfl, yes_if ?_⟩
    refine ⟨_, rfl, rfl, ?_⟩
    rw [optM_non kx]
    refine ⟨_, b.at_, ?_, M', ?_⟩
    · rw [List.length_map, List.length_replicate]
      exact small1000 (by omega)
    · rw [List.replicate_succ', List.map_append]
      have := b.push (V.bl (!(rootT t m).isNone))
      have e : (!(rootT t m).isNone) = (rootT t m).isSome := by cases rootT t m <;> rfl
      rw [e] at this ⊢
      exact this
  rintro H13 ⟨M13, b⟩
  obtain ⟨M14, g14, hD, _⟩ := b.done
  replace w := w.grow g14
  replace top := top.trans g14.ex
  replace here := here.mono g14.ex
  replace k8 := k8.mono g14.ex
  replace k10 := k10.mono g14.ex
  replace ls := ls.mono g14.ex
  refine ⟨_, rfl, _, rfl, ?_⟩
  refine ⟨szL rfl, fun p15 pn15 => ?_⟩
  generalize e15 : upd H13 p15 _ = H15
  obtain ⟨M15, g15, hp15⟩ := new_of e15 w.inn pn15
  replace w := w.grow g15
  replace top := top.trans g15.ex
  replace here := here.mono g15.ex
  replace k8 := k8.mono g15.ex
  replace k10 := k10.mono g15.ex
  replace ls := ls.mono g15.ex
  replace hD := g15.ex _ _ hD
  refine ⟨_, _, dp2 (w.inn _ _ hD) (dpb _) (dpb _), dp2 (w.inn _ _ hp15) (dpb _) (dpb _), rfl, rfl, _, rfl, ?_⟩
  rw [eqv_b2]
  refine iteF ?_
  -- the roots so often
  clear b
  refine ⟨_, rfl, _, rfl, ?_⟩
  cases er : rootT t m with
  | none => ?x
  | some c => ?y
  case' x => refine iteF ?_
  case' y =>
    rw [er] at k8 k10
    refine iteT ?_
    refine ⟨_, rfl, p11, rfl, ⟨_, SqL.of (w.inn _ _ ls)⟩, fun D2 nD2 => ?_⟩
    have pc := root_is m1 er
    obtain ⟨c1, c2, c3⟩ := rt.2 c er
    have bc : B (10 ^ 40) c := B.up (n := 60) ⟨by omega, by omega, c3⟩ (by decide +kernel)
    refine lc_list (xs := [r8, r10]) (fun i H' => ∃ M' l, Build M15 H15 D2 l M' H' ∧ l.length = i ∧ ∀ u ∈ l, TripAt M' u t) ⟨M15, [], Build.start w.inn nD2, rfl, fun _ h => nomatch h⟩ ?_ ?_ ?_
    · rintro i H' hi ⟨M', l, b, _⟩
      exact SqL.of (b.inn _ _ (b.ex _ _ ls))
    · rintro i x H' hx ⟨M', l, b, hl, hu⟩
      have kx : Mv a.C_Move M' x c := by
        match i, hx with
        | 0, hx => cases hx; exact Mv.mono k8 b.ex
        | 1, hx => cases hx; exact Mv.mono k10 b.ex
        | i + 2, hx => simp at hx
      have hi : i < 2 := by
        have := (List.getElem?_eq_some_iff.mp hx).1
        exact this
      refine ⟨rfl, yes_if ?_⟩
      refine ⟨_, rfl, _, rfl, M', c, b.inn, kx, fun r16 M16 H16 g16 k16 => ?_⟩
      have b16 := b.grow g16
      refine ⟨_, rfl, _, _, rfl, M16, c, m, b16.inn, k16, rfl, by omega, Int.le_trans m5 (by decide), bc, fun r17 M17 H17 g17 k17 => ?_⟩
      have b17 := b16.grow g17
      rw [pc] at k17
      refine ⟨_, b17.at_, ?_, M17, _, b17.push _, ?_, ?_⟩
      · rw [hl]
        exact small1000 (by omega)
      · rw [List.length_append, hl]
        rfl
      · intro u h
        rcases List.mem_append.mp h with h | h
        · exact ((hu u h).mono g16.ex).mono g17.ex
        · rw [List.mem_singleton.mp h]
          exact k17
    rintro H18 ⟨M18, l, b, hl, hu⟩
    obtain ⟨M19, g19, hD2, e19⟩ := b.done
    match l, hl with
    | [u1, u2], _ => ?z
  case' y =>
    have ku1 := (hu u1 (by simp)).mono e19
    have ku2 := (hu u2 (by simp)).mono e19
    replace w := w.grow g19
    replace top := top.trans g19.ex
    replace here := here.mono g19.ex
    refine ⟨_, rfl, _, rfl, ?_⟩
    refine ⟨szL rfl, fun p20 pn20 => ?_⟩
    generalize e20 : upd H18 p20 _ = H20
    obtain ⟨M20, g20, hp20⟩ := new_of e20 w.inn pn20
    replace w := w.grow g20
    replace top := top.trans g20.ex
    replace here := here.mono g20.ex
    replace ku1 := ku1.mono g20.ex
    replace ku2 := ku2.mono g20.ex
    replace hD2 := g20.ex _ _ hD2
    have hp := w.inn
    refine ⟨_, _, TripAt.dp2 (w.inn _ _ hD2) (ku1.mono w.inn) (ku2.mono w.inn), TripAt.dp2 (w.inn _ _ hp20) (here.mono w.inn) (here.mono w.inn), rfl, rfl, _, rfl, ?_⟩
    rw [eqv_dT2]
    refine iteF ?_
  all_goals
    -- a great one
    refine ⟨_, rfl, _, _, rfl, v, _, _, 9, rfl, rfl, w, by omega, by decide, by decide, fun r21 M21 H21 t21 e21 w k21 b21 => ?_⟩
    replace top := top.trans e21
    obtain ⟨p21, rfl, hp21⟩ := k21
    refine ⟨p21, rfl, ⟨_, SqT.of (w.inn _ _ hp21)⟩, fun D3 nD3 => ?_⟩
    refine lc_tup (xs := [t21.1, t21.2.1, t21.2.2].map V.int) (fun i H' => ∃ M', Build M21 H21 D3 (([t21.1, t21.2.1, t21.2.2].take i).map fun z => V.int (z * 10 ^ 25 + 1)) M' H') ⟨M21, Build.start w.inn nD3⟩ ?_ ?_ ?_
    · rintro i H' hi ⟨M', b⟩
      exact SqT.of (b.inn _ _ (b.ex _ _ hp21))
    · rintro i x H' hx ⟨M', b⟩
      rw [List.getElem?_map, Option.map_eq_some_iff] at hx
      obtain ⟨z, hz, rfl⟩ := hx
      have zb : z.natAbs ≤ 9 := by
        have := List.mem_of_getElem? hz
        simp only [List.mem_cons, List.not_mem_nil, or_false] at this
        obtain ⟨y1, y2, y3⟩ := b21
        rcases this with h | h | h <;> rw [h] <;> assumption
      refine ⟨rfl, yes_if ?_⟩
      refine ⟨_, rfl, _, _, rfl, rfl, ⟨by decide, by decide, by decide⟩, _, _, rfl, rfl, big_mul (Nat.lt_of_le_of_lt zb (by decide +kernel)) (by decide +kernel), _, _, rfl, rfl, ?_⟩
      refine ⟨_, b.at_, ?_, M', ?_⟩
      · rw [List.length_map, List.length_take]
        exact small1000 (Nat.le_trans (Nat.min_le_right _ _) (by show 3 ≤ 1000; decide))
      · rw [List.take_add_one, hz, List.map_append]
        exact b.push _
    rintro H22 ⟨M22, b⟩
    obtain ⟨M23, g23, hD3, _⟩ := b.done
    replace w := w.grow g23
    replace top := top.trans g23.ex
    refine ⟨D3, _, rfl, .inl ⟨SqL.of (w.inn _ _ hD3), fun p24 pn24 => ?_⟩⟩
    generalize e24 : upd H22 p24 _ = H24
    obtain ⟨M24, g24, hp24⟩ := new_of e24 w.inn pn24
    replace w := w.grow g24
    replace top := top.trans g24.ex
    have part : TripAt M24 (.ref p24) (t21.1 * 10 ^ 25 + 1, t21.2.1 * 10 ^ 25 + 1, t21.2.2 * 10 ^ 25 + 1) := ⟨p24, rfl, hp24⟩
    have pb : B (10 ^ 27) ((t21.1 * 10 ^ 25 + 1, t21.2.1 * 10 ^ 25 + 1, t21.2.2 * 10 ^ 25 + 1) : T3) := by
      obtain ⟨y1, y2, y3⟩ := b21
      have z0 : Int.toNat 9 = 9 := rfl
      rw [z0] at y1 y2 y3
      refine ⟨?_, ?_, ?_⟩ <;> simp only <;> omega
    generalize (t21.1 * 10 ^ 25 + 1, t21.2.1 * 10 ^ 25 + 1, t21.2.2 * 10 ^ 25 + 1) = pt at part pb
    refine ⟨_, _, rfl, rfl, ⟨by decide, by decide, by decide⟩, _, rfl, _, _, rfl, v, _, _, 9, rfl, rfl, w, by omega, by decide, by decide, fun r25 H25 a25 c25 w => ⟨_, _, rfl, rfl, ?_⟩⟩
    refine ⟨_, _, rfl, ?_⟩
    obtain ⟨mm, emm⟩ : ∃ mm : Int, mm = 10 ^ Int.toNat 20 + r25 := ⟨_, rfl⟩
    simp only
    rw [← emm]
    have mm1 : 2 ≤ mm := by
      have : (10 : Int) ^ Int.toNat 20 = 10 ^ 20 := rfl
      omega
    have mm2 : mm.natAbs ≤ 10 ^ 21 := by
      have : (10 : Int) ^ Int.toNat 20 = 10 ^ 20 := rfl
      omega
    have mm3 : mm.natAbs ≤ 10 ^ 30 := Nat.le_trans mm2 (by decide +kernel)
    refine ⟨_, rfl, _, rfl, _, _, rfl, M24, pt, mm, w.inn, part, rfl, by omega, by omega, pb.up (by decide +kernel), fun r26 M26 H26 g26 whole => ?_⟩
    have wb : B (10 ^ 98) (powT pt mm) := (pb.pow mm2).up (by decide +kernel)
    replace w := w.grow g26
    replace top := top.trans g26.ex
    replace part := part.mono g26.ex
    refine ⟨_, rfl, _, rfl, M26, _, w.inn, whole, fun r27 M27 H27 g27 k27 => ?_⟩
    replace w := w.grow g27
    replace top := top.trans g27.ex
    replace part := part.mono g27.ex
    replace whole := whole.mono g27.ex
    refine ⟨_, rfl, _, _, rfl, M27, _, mm, w.inn, k27, rfl, by omega, mm3, wb.up (by decide +kernel), fun r28 M28 H28 g28 k28 => ?_⟩
    rw [root_pow (by omega)] at k28
    replace w := w.grow g28
    replace top := top.trans g28.ex
    replace part := part.mono g28.ex
    replace whole := whole.mono g28.ex
    refine ⟨_, rfl, _, rfl, M28, _, w.inn, part, fun r29 M29 H29 g29 k29 => ?_⟩
    replace k28 := Mv.mono k28 g29.ex
    replace w := w.grow g29
    replace top := top.trans g29.ex
    replace whole := whole.mono g29.ex
    refine ne_move T.o_Move (k28.mono w.inn) (k29.mono w.inn) rfl (pb.sm (by decide +kernel)) ⟨_, rfl, iteF ?_⟩
    -- one more
    refine ⟨_, rfl, 2, rfl, sl2 w.inn whole fun r30 M30 H30 g30 k30 => ?_⟩
    replace w := w.grow g30
    replace top := top.trans g30.ex
    replace whole := whole.mono g30.ex
    refine ⟨_, rfl, rd_t2 (whole.mono w.inn) ⟨_, _, rfl, rfl, ?_⟩⟩
    refine ⟨szL rfl, fun p31 pn31 => ?_⟩
    generalize e31 : upd H30 p31 _ = H31
    obtain ⟨M31, g31, hp31⟩ := new_of e31 w.inn pn31
    replace w := w.grow g31
    replace top := top.trans g31.ex
    replace k30 := k30.mono g31.ex
    refine cat3 w.inn k30 rfl hp31 fun r32 M32 H32 g32 k32 => ?_
    replace w := w.grow g32
    replace top := top.trans g32.ex
    refine ⟨_, rfl, M32, _, w.inn, k32, fun r33 M33 H33 g33 k33 => ?_⟩
    replace w := w.grow g33
    replace top := top.trans g33.ex
    have wb2 : B (10 ^ 100) ((powT pt mm).1, (powT pt mm).2.1, (powT pt mm).2.2 + 1) := by
      obtain ⟨y1, y2, y3⟩ := wb
      refine ⟨?_, ?_, ?_⟩ <;> simp only <;> omega
    refine ⟨_, rfl, _, _, rfl, M33, _, mm, w.inn, k33, rfl, by omega, mm3, wb2, fun r34 M34 H34 g34 k34 => ?_⟩
    replace w := w.grow g34
    replace top := top.trans g34.ex
    have e34 := OptM.none k34 (root_off mm1)
    subst e34
    refine ⟨rfl, _, rfl, iteF ?_⟩
    -- the still one
    have z0 : powT (0, 0, 0) mm = (0, 0, 0) := by simp [powT]
    have zb : B 0 ((0, 0, 0) : T3) := ⟨Nat.le_refl _, Nat.le_refl _, Nat.le_refl _⟩
    intro x35 d35 hx35 hd35 ne35
    refine ⟨_, _, _, _, rfl, x35, d35, ((0,0,0) : T3), rfl, rfl, rfl, rfl, upd_same, rfl, ?_⟩
    rw [upd_upd]
    generalize e35 : upd (upd H34 d35 _) x35 _ = H35
    obtain ⟨M35, g35, k35⟩ := mv_of (t := (0,0,0)) e35 w.inn hx35 hd35 ne35
    replace w := w.grow g35
    replace top := top.trans g35.ex
    refine ⟨_, rfl, _, _, rfl, M35, _, mm, w.inn, k35, rfl, by omega, mm3, zb.up (by decide +kernel), fun r36 M36 H36 g36 k36 => ?_⟩
    have k36' := OptM.some k36 (show rootT (0, 0, 0) mm = some (0, 0, 0) by
      have := root_pow (c := (0, 0, 0)) (m := mm) (by omega)
      rw [z0] at this
      exact this)
    replace w := w.grow g36
    replace top := top.trans g36.ex
    intro x37 d37 hx37 hd37 ne37
    refine ⟨_, _, _, _, rfl, x37, d37, ((0,0,0) : T3), rfl, rfl, rfl, rfl, upd_same, rfl, ?_⟩
    rw [upd_upd]
    generalize e37 : upd (upd H36 d37 _) x37 _ = H37
    obtain ⟨M37, g37, k37⟩ := mv_of (t := (0,0,0)) e37 w.inn hx37 hd37 ne37
    replace w := w.grow g37
    replace top := top.trans g37.ex
    replace k36' := k36'.mono g37.ex
    refine eq_move T.o_Move (k36'.mono w.inn) (k37.mono w.inn) rfl (zb.sm (by decide +kernel)) ?_
    exact q _ _ top (w.mono (by omega))
end

end K64

namespace K64
open PySem PySem.Spec PyProof.Rows L2 Own
section
variable {P : Program} {w : World} {K : PySem.W.Frag} {mg : Str → Option Value} {base : Heap} {a : Ad}
theorem bet_b {s t : T3} {n m : Nat} (h : B n t) (k : B m s) : B (n + m + n * m + (n + n * n) + (n + m + n * m) * (n + n * n)) (betT t s) := (h.put k).put h.off
def spRight : Sp := sp1 fun x H Q => ∃ v M, x = .ref v ∧ Vl v 1 M H ∧ ∀ H', Same M H' → Q (.bl true) H'
theorem ok_l_right (T : Txt K mg a) : FnG P w K mg base 11 a.f_l_right a.d_l_right ["_law_reel_here"] spRight := by
  refine okG T.F_l_right sc_l_right (len1 rfl) (fun cdv A outer s H vs Q E hg hr h => ?_)
  obtain ⟨_, rfl, v, M, rfl, w, q⟩ := h
  refine ⟨_, (pss_cons (ps_for PassesOwn.never rfl (pi_range1 (by rfl) T.z_range (pa_cons pe_int pa_nil)) (pg_name (i := 1) sc_l_right.nd rfl (.inl rfl))
      (pss_cons (ps_par (by rfl) sc_l_right.nd (i := 2) (j := 3) rfl rfl (by decide) rfl rfl (pa_cons (pe_call (ok_l_trip T) (hr.mono (by decide)) (by rfl) T.g_l_trip T.F_l_trip.kp T.b_l_trip .nil pass0 (pa_cons (pv 0) (pa_cons pe_int pa_nil))) (pa_cons (pe_call (ok_l_trip T) (hr.mono (by decide)) (by rfl) T.g_l_trip T.F_l_trip.kp T.b_l_trip .nil pass0 (pa_cons (pv 0) (pa_cons pe_int pa_nil))) pa_nil)) (by rfl))
      (pss_cons (ps_set (i := 4) sc_l_right.nd rfl (.inl rfl) (pe_lst (pa_cons (pe_call (ok_l_between T) (hr.mono (by decide)) (by rfl) T.g_l_between T.F_l_between.kp T.b_l_between .nil pass0 (pa_cons (pv 3) (pa_cons (pv 2) pa_nil))) (pa_cons (pe_op op_catT (pe_slice sl_tup (pv 2) po_none (po_some pe_int)) (pe_tup (pa_cons (pe_op op_sub (pe_call (ok_l_wind T) (hr.mono (by decide)) (by rfl) T.g_l_wind T.F_l_wind.kp T.b_l_wind .nil pass0 (pa_cons (pv 0) (pa_cons pe_int pa_nil))) pe_int) pa_nil))) (pa_cons (pe_call (ok_l_trip T) (hr.mono (by decide)) (by rfl) T.g_l_trip T.F_l_trip.kp T.b_l_trip .nil pass0 (pa_cons (pv 0) (pa_cons pe_int pa_nil))) (pa_cons (pv 2) pa_nil))))))
      (pss_cons (ps_set (i := 5) sc_l_right.nd rfl (.inl rfl) (pe_call (ok_l_one_of T) (hr.mono (by decide)) (by rfl) T.g_l_one_of T.F_l_one_of.kp T.b_l_one_of .nil pass0 (pa_cons (pv 0) (pa_cons (pv 4) pa_nil))))
      (pss_cons (ps_if (PW.pt (pw_and (pt_cmpR op_lt (pe_callB call_abs (by rfl) T.z_abs (by decide +kernel) (pa_cons (pe_op op_sub (pe_ix ix_tup (pv 5) pe_int (fun _ _ => rfl)) (pe_ix ix_tup (pv 2) pe_int (fun _ _ => rfl))) pa_nil)) pe_int (nomark _)) (pw_and1 (pt_not (pt_val (pe_callG (ok_l_alike_right T) hg (hr.mono (by decide)) (by rfl) T.g_l_alike_right T.F_l_alike_right.kp T.b_l_alike_right (pa_cons (pv 2) (pa_cons (pv 5) (pa_cons (pe_call (ok_l_are_alike T) (hr.mono (by decide)) (by rfl) T.g_l_are_alike T.F_l_are_alike.kp T.b_l_are_alike .nil pass0 (pa_cons (pv 2) (pa_cons (pv 5) pa_nil))) pa_nil)))))))))
      (pss_one (ps_ret pe_bl)) pss_nil)
      (pss_one (ps_if (PW.pt (pw_or (pt_not (pt_val (pe_callG (ok_l_alike_right T) hg (hr.mono (by decide)) (by rfl) T.g_l_alike_right T.F_l_alike_right.kp T.b_l_alike_right (pa_cons (pv 2) (pa_cons (pe_ix ix_list (pv 4) pe_int (fun _ _ => rfl)) (pa_cons pe_bl pa_nil)))))) (pw_or1 (pt_not (pt_val (pe_call (ok_l_roots_right T) (hr.mono (by decide)) (by rfl) T.g_l_roots_right T.F_l_roots_right.kp T.b_l_roots_right .nil pass0 (pa_cons (pv 0) pa_nil)))))))
      (pss_one (ps_ret pe_bl)) pss_nil)))))))
      (pss_cons (ps_par (by rfl) sc_l_right.nd (i := 6) (j := 7) rfl rfl (by decide) rfl rfl (pa_cons (pe_call (ok_l_trip T) (hr.mono (by decide)) (by rfl) T.g_l_trip T.F_l_trip.kp T.b_l_trip .nil pass0 (pa_cons (pv 0) (pa_cons pe_int pa_nil))) (pa_cons (pe_op op_mulW (pe_op op_pow pe_int pe_int) (pe_op op_add pe_int (pe_call (ok_l_wind T) (hr.mono (by decide)) (by rfl) T.g_l_wind T.F_l_wind.kp T.b_l_wind .nil pass0 (pa_cons (pv 0) (pa_cons pe_int pa_nil))))) pa_nil)) (by rfl))
      (pss_cons (ps_set (i := 6) sc_l_right.nd rfl (.inl rfl) (pe_tup (pa_cons (pe_op op_mulW (pe_ix ix_tup (pv 6) pe_int (fun _ _ => rfl)) (pv 7)) (pa_cons (pe_op op_add (pe_op op_mulW (pe_ix ix_tup (pv 6) pe_int (fun _ _ => rfl)) (pv 7)) (pe_op op_mulW pe_int (pv 7))) (pa_cons (pe_ix ix_tup (pv 6) pe_int (fun _ _ => rfl)) pa_nil)))))
      (pss_cons (ps_set (i := 3) sc_l_right.nd rfl (.inl rfl) (pe_callTy call_tuple_of (by rfl) T.z_tuple (by decide +kernel) (pa_cons (pe_lc (own := [("_law_number", 8)]) (g := gName 8) (tt := tYes) rfl sc_l_right.nd (pi_tup (pe_call (ok_l_trip T) (hr.mono (by decide)) (by rfl) T.g_l_trip T.F_l_trip.kp T.b_l_trip .nil pass0 (pa_cons (pv 0) (pa_cons pe_int pa_nil)))) (blkOk_by (own := [("_law_number", 8)]) (N := ["_law_reel_here", "_law_turn", "_law_first", "_law_by", "_law_some", "_law_last", "_law_great", "_law_side", "_law_number"]) (sc := defScope s_l_right) (by decide +kernel)) (fun _ _ _ _ _ => (pg_name (i := 8) sc_l_right.nd rfl (.inl rfl))) (fun _ _ _ _ _ => pts_nil) (fun _ _ _ _ _ => (pe_op op_add (pe_op op_mulW (pv 8) (pe_op op_pow pe_int pe_int)) pe_int))) pa_nil)))
      (pss_cons (ps_if (pt_not (pt_val (pe_callG (ok_l_alike_right T) hg (hr.mono (by decide)) (by rfl) T.g_l_alike_right T.F_l_alike_right.kp T.b_l_alike_right (pa_cons (pv 6) (pa_cons (pe_call (ok_l_between T) (hr.mono (by decide)) (by rfl) T.g_l_between T.F_l_between.kp T.b_l_between .nil pass0 (pa_cons (pv 3) (pa_cons (pv 6) pa_nil))) (pa_cons pe_bl pa_nil))))))
      (pss_one (ps_ret pe_bl)) pss_nil)
      (pss_one (ps_ret (pe_callG (ok_l_alike_right T) hg (hr.mono (by decide)) (by rfl) T.g_l_alike_right T.F_l_alike_right.kp T.b_l_alike_right (pa_cons (pv 6) (pa_cons (pe_op op_catT (pe_slice sl_tup (pv 6) po_none (po_some pe_int)) (pe_tup (pa_cons (pe_op op_add (pe_ix ix_tup (pv 6) pe_int (fun _ _ => rfl)) pe_int) pa_nil))) (pa_cons pe_bl pa_nil))))))))))), ?_⟩
  refine ⟨3, rfl, by decide, by decide, ?_⟩
  refine for_range (lo := 0) (n := 3) (fun i σ H' => ∃ M' y1 y2 y3 y4 y5, σ = [some (.ref v), y1, y2, y3, y4, y5, none, none, none] ∧ Same M M' ∧ Vl v (1 + 23 * i) M' H') ⟨M, none, none, none, none, none, rfl, Same.refl _, w⟩ ?_ ?_
  · rintro i σ H0 hi ⟨M0, y1, y2, y3, y4, y5, rfl, top, w⟩
    refine ⟨_, rfl, _, _, rfl, v, _, M0, 4, rfl, rfl, w, by omega, by decide, by decide, fun r1 M1 H1 t1 e1 w first b1 => ?_⟩
    refine ⟨_, rfl, _, _, rfl, v, _, M1, 3, rfl, rfl, w, by omega, by decide, by decide, fun r2 M2 H2 t2 e2 w by_ b2 => ⟨_, _, rfl, ?_⟩⟩
    replace top := (top.trans e1).trans e2
    replace first := first.mono e2
    -- some
    refine ⟨_, rfl, _, rfl, _, _, rfl, M2, t2, t1, w.inn, by_, first, b2.up (by decide +kernel), b1.up (by decide +kernel), fun r3 M3 H3 g3 k3 => ?_⟩
    replace w := w.grow g3
    replace top := top.trans g3.ex
    replace first := first.mono g3.ex
    refine ⟨_, rfl, 2, rfl, sl2 w.inn first fun r4 M4 H4 g4 k4 => ?_⟩
    replace w := w.grow g4
    replace top := top.trans g4.ex
    replace first := first.mono g4.ex
    replace k3 := k3.mono g4.ex
    refine ⟨_, rfl, _, _, rfl, v, _, M4, 9, rfl, rfl, w, by omega, by decide, by decide, fun r5 H5 a5 c5 w => ⟨_, _, rfl, rfl, ?_⟩⟩
    refine ⟨szL rfl, fun p6 pn6 => ?_⟩
    generalize e6 : upd H5 p6 _ = H6
    obtain ⟨M6, g6, hp6⟩ := new_of e6 w.inn pn6
    replace w := w.grow g6
    replace top := top.trans g6.ex
    replace first := first.mono g6.ex
    replace k3 := k3.mono g6.ex
    replace k4 := k4.mono g6.ex
    refine cat3 w.inn k4 rfl hp6 fun r7 M7 H7 g7 k7 => ?_
    replace w := w.grow g7
    replace top := top.trans g7.ex
    replace first := first.mono g7.ex
    replace k3 := k3.mono g7.ex
    refine ⟨_, rfl, _, _, rfl, v, _, M7, 4, rfl, rfl, w, by omega, by decide, by decide, fun r8 M8 H8 t8 e8 w k8 b8 => ?_⟩
    replace top := top.trans e8
    replace first := first.mono e8
    replace k3 := k3.mono e8
    replace k7 := k7.mono e8
    refine ⟨_, rfl, ?_⟩
    refine ⟨szL rfl, fun p9 pn9 => ?_⟩
    generalize e9 : upd H8 p9 _ = H9
    obtain ⟨M9, g9, hp9⟩ := new_of e9 w.inn pn9
    have ls : At M9 p9 (.lst [r3, r7, r8, r1]) := hp9
    replace w := w.grow g9
    replace top := top.trans g9.ex
    replace first := first.mono g9.ex
    replace k3 := k3.mono g9.ex
    replace k7 := k7.mono g9.ex
    replace k8 := k8.mono g9.ex
    -- the last one
    refine ⟨_, rfl, _, rfl, _, _, rfl, v, _, M9, p9, _, rfl, rfl, w, by omega, hp9, by show 0 < 4; decide, by show 4 < 1000; decide, fun r10 H10 m10 w => ?_⟩
    have bet : B (10 ^ 4) (betT t2 t1) := (bet_b b2 b1).up (by decide +kernel)
    obtain ⟨t10, last, b10⟩ : ∃ t, TripAt M9 r10 t ∧ B (10 ^ 4) t := by
      simp only [List.mem_cons, List.not_mem_nil, or_false] at m10
      rcases m10 with rfl | rfl | rfl | rfl
      · exact ⟨_, k3, bet⟩
      · obtain ⟨z1, z2, z3⟩ := b1
        have z0 : Int.toNat 4 = 4 := rfl
        rw [z0] at z1 z2 z3
        exact ⟨_, k7, ⟨by simp only; omega, by simp only; omega, by simp only; omega⟩⟩
      · exact ⟨_, k8, b8.up (by decide +kernel)⟩
      · exact ⟨_, first, b1.up (by decide +kernel)⟩
    refine ⟨_, rfl, rd_t2 (last.mono w.inn) ⟨_, rfl, rd_t2 (first.mono w.inn) ⟨_, _, rfl, rfl, _, rfl, _, _, rfl, rfl, _, rfl, ite2 (fun e => ?x) (fun e => ?y)⟩⟩⟩
    case' x =>
      have e11 : (if t10.2.2 - t1.2.2 < 0 then -(t10.2.2 - t1.2.2) else t10.2.2 - t1.2.2) < 9 := of_decide_eq_true e
      rw [abs_abs] at e11
      refine ⟨_, rfl, _, rfl, _, rfl, _, rfl, _, _, rfl, M9, t1, t10, w.inn, first, last, b1, by omega, fun M12 H12 b12 g12 e12 => ?_⟩
      replace w := w.grow g12
      replace top := top.trans g12.ex
      replace first := first.mono g12.ex
      replace last := last.mono g12.ex
      replace k3 := k3.mono g12.ex
      replace ls := ls.mono g12.ex
      refine ⟨_, _, _, rfl, M12, 10 ^ 4, t1, t10, b12, w.inn, first, last, rfl, b1.up (by decide +kernel), b10, by decide +kernel, e12, fun M13 H13 g13 => ⟨_, rfl, iteF ?_⟩⟩
      replace w := w.grow g13
      replace top := top.trans g13.ex
      replace first := first.mono g13.ex
      replace k3 := k3.mono g13.ex
      replace ls := ls.mono g13.ex
    case' y => refine iteF ?_
    all_goals
      refine ⟨_, rfl, _, rfl, p9, _, 0, _, rfl, rfl, SqL.of (w.inn _ _ ls), rfl, ?_⟩
      refine ⟨_, _, _, rfl, _, 10 ^ 4, t1, _, true, w.inn, first, k3, rfl, b1.up (by decide +kernel), bet, by decide +kernel, ⟨fun _ => ⟨t2, rfl⟩, fun _ => rfl⟩, fun M14 H14 g14 => ⟨_, rfl, iteF ?_⟩⟩
      replace w := w.grow g14
      replace top := top.trans g14.ex
      refine ⟨_, rfl, _, rfl, v, _, M14, rfl, w, by omega, fun M15 H15 e15 w => ⟨_, rfl, iteF ?_⟩⟩
      exact ⟨M15, _, _, _, _, _, rfl, top.trans e15, w.mono (by omega)⟩
  · rintro σ H0 ⟨M0, y1, y2, y3, y4, y5, rfl, top, w⟩
    refine ⟨_, rfl, _, _, rfl, v, _, M0, 9, rfl, rfl, w, by omega, by decide, by decide, fun r1 M1 H1 t1 e1 w k1 b1 => ?_⟩
    replace top := top.trans e1
    refine ⟨_, _, rfl, rfl, ⟨by decide, by decide, by decide⟩, _, rfl, _, _, rfl, v, _, M1, 9, rfl, rfl, w, by omega, by decide, by decide, fun r2 H2 a2 c2 w => ⟨_, _, rfl, rfl, ?_⟩⟩
    have sb : (1 + r2).natAbs < 10 ^ 300 := Nat.lt_of_le_of_lt (show (1 + r2).natAbs ≤ 9 by omega) (by decide +kernel)
    refine ⟨_, _, rfl, rfl, big_mul (by decide +kernel) sb, _, _, rfl, ?_⟩
    obtain ⟨S, eS⟩ : ∃ S : Int, S = 10 ^ Int.toNat 25 * (1 + r2) := ⟨_, rfl⟩
    simp only
    rw [← eS]
    have S1 : 2 ≤ S := by
      have : (10 : Int) ^ Int.toNat 25 = 10 ^ 25 := rfl
      rw [this] at eS
      omega
    have S2 : S.natAbs ≤ 10 ^ 26 := by
      have : (10 : Int) ^ Int.toNat 25 = 10 ^ 25 := rfl
      rw [this] at eS
      omega
    have S3 : S.natAbs < 10 ^ 300 := Nat.lt_of_le_of_lt S2 (by decide +kernel)
    have k1' := k1.mono w.inn
    have n1 : t1.1.natAbs ≤ 9 := b1.1
    have n2 : t1.2.1.natAbs ≤ 9 := b1.2.1
    have n3 : t1.2.2.natAbs ≤ 9 := b1.2.2
    refine ⟨_, rfl, rd_t0 k1' ⟨_, rfl, _, _, rfl, rfl, big_mul (Nat.lt_of_le_of_lt n1 (by decide +kernel)) S3, ?_⟩⟩
    refine ⟨_, rfl, rd_t1 k1' ⟨_, rfl, _, _, rfl, rfl, big_mul (Nat.lt_of_le_of_lt n2 (by decide +kernel)) S3, ?_⟩⟩
    refine ⟨_, rfl, _, _, rfl, rfl, big_mul (by decide +kernel) S3, _, _, rfl, rfl, ?_⟩
    refine ⟨_, rfl, rd_t2 k1' ?_⟩
    refine ⟨szL rfl, fun p3 pn3 => ?_⟩
    generalize e3 : upd H2 p3 _ = H3
    obtain ⟨M3, g3, hp3⟩ := new_of e3 w.inn pn3
    replace w := w.grow g3
    replace top := top.trans g3.ex
    have great : TripAt M3 (.ref p3) (t1.1 * S, t1.2.1 * S + 2 * S, t1.2.2) := ⟨p3, rfl, hp3⟩
    have gb : B (10 ^ 28) ((t1.1 * S, t1.2.1 * S + 2 * S, t1.2.2) : T3) := by
      have z1 := na_mul n1 S2
      have z2 := na_mul n2 S2
      refine ⟨?_, ?_, ?_⟩ <;> simp only <;> omega
    have gd : ∀ c : T3, betT c (t1.1 * S, t1.2.1 * S + 2 * S, t1.2.2) ≠ (t1.1 * S, t1.2.1 * S + 2 * S, t1.2.2 + 1) := by
      intro c h
      rw [bet_eq] at h
      simp only [Prod.mk.injEq, true_and] at h
      have e5 : S ∣ 1 := ⟨c.1 * (t1.2.1 + 2) - t1.1 * c.2.1, by grind⟩
      have := Int.le_of_dvd (by decide) e5
      omega
    generalize t1.1 * S = G1 at great gb gd
    generalize t1.2.1 * S + 2 * S = G2 at great gb gd
    generalize t1.2.2 = G3 at great gb gd
    -- the other one
    refine ⟨_, rfl, _, _, rfl, v, _, M3, 5, rfl, rfl, w, by omega, by decide, by decide, fun r4 M4 H4 t4 e4 w k4 b4 => ?_⟩
    replace top := top.trans e4
    replace great := great.mono e4
    obtain ⟨p4, rfl, hp4⟩ := k4
    refine ⟨p4, rfl, ⟨_, SqT.of (w.inn _ _ hp4)⟩, fun D3 nD3 => ?_⟩
    refine lc_tup (xs := [t4.1, t4.2.1, t4.2.2].map V.int) (fun i H' => ∃ M', Build M4 H4 D3 (([t4.1, t4.2.1, t4.2.2].take i).map fun z => V.int (z * 10 ^ 20 + 7)) M' H') ⟨M4, Build.start w.inn nD3⟩ ?_ ?_ ?_
    · rintro i H' hi ⟨M', b⟩
      exact SqT.of (b.inn _ _ (b.ex _ _ hp4))
    · rintro i x H' hx ⟨M', b⟩
      rw [List.getElem?_map, Option.map_eq_some_iff] at hx
      obtain ⟨z, hz, rfl⟩ := hx
      have zb : z.natAbs ≤ 5 := by
        have := List.mem_of_getElem? hz
        simp only [List.mem_cons, List.not_mem_nil, or_false] at this
        obtain ⟨y1, y2, y3⟩ := b4
        rcases this with h | h | h <;> rw [h] <;> assumption
      refine ⟨rfl, yes_if ?_⟩
      refine ⟨_, rfl, _, _, rfl, rfl, ⟨by decide, by decide, by decide⟩, _, _, rfl, rfl, big_mul (Nat.lt_of_le_of_lt zb (by decide +kernel)) (by decide +kernel), _, _, rfl, rfl, ?_⟩
      refine ⟨_, b.at_, ?_, M', ?_⟩
      · rw [List.length_map, List.length_take]
        exact small1000 (Nat.le_trans (Nat.min_le_right _ _) (by show 3 ≤ 1000; decide))
      · rw [List.take_add_one, hz, List.map_append]
        exact b.push _
    rintro H5 ⟨M5, b⟩
    obtain ⟨M6, g6, hD3, _⟩ := b.done
    replace w := w.grow g6
    replace top := top.trans g6.ex
    replace great := great.mono g6.ex
    refine ⟨D3, _, rfl, .inl ⟨SqL.of (w.inn _ _ hD3), fun p7 pn7 => ?_⟩⟩
    generalize e7 : upd H5 p7 _ = H7
    obtain ⟨M7, g7, hp7⟩ := new_of e7 w.inn pn7
    replace w := w.grow g7
    replace top := top.trans g7.ex
    replace great := great.mono g7.ex
    have by_ : TripAt M7 (.ref p7) (t4.1 * 10 ^ 20 + 7, t4.2.1 * 10 ^ 20 + 7, t4.2.2 * 10 ^ 20 + 7) := ⟨p7, rfl, hp7⟩
    have pb : B (10 ^ 21) ((t4.1 * 10 ^ 20 + 7, t4.2.1 * 10 ^ 20 + 7, t4.2.2 * 10 ^ 20 + 7) : T3) := by
      obtain ⟨y1, y2, y3⟩ := b4
      have z0 : Int.toNat 5 = 5 := rfl
      rw [z0] at y1 y2 y3
      refine ⟨?_, ?_, ?_⟩ <;> simp only <;> omega
    generalize (t4.1 * 10 ^ 20 + 7, t4.2.1 * 10 ^ 20 + 7, t4.2.2 * 10 ^ 20 + 7) = pt at by_ pb
    refine ⟨_, rfl, ?_⟩
    refine ⟨_, rfl, _, rfl, _, _, rfl, M7, pt, _, w.inn, by_, great, pb.up (by decide +kernel), gb.up (by decide +kernel), fun r8 M8 H8 g8 k8 => ?_⟩
    replace w := w.grow g8
    replace top := top.trans g8.ex
    replace great := great.mono g8.ex
    have bb : B (10 ^ 50) (betT pt (G1, G2, G3)) := by
      rw [bet_eq]
      obtain ⟨y1, y2, y3⟩ := gb
      obtain ⟨z1, z2, z3⟩ := pb
      have w1 := na_mul z1 y2
      have w2 := na_mul y1 z2
      refine ⟨?_, ?_, ?_⟩ <;> simp only at * <;> omega
    refine ⟨_, _, _, rfl, M8, 10 ^ 50, _, _, true, w.inn, great, k8, rfl, gb.up (by decide +kernel), bb, by decide +kernel, ⟨fun _ => ⟨pt, rfl⟩, fun _ => rfl⟩, fun M9 H9 g9 => ⟨_, rfl, iteF ?_⟩⟩
    replace w := w.grow g9
    replace top := top.trans g9.ex
    replace great := great.mono g9.ex
    refine ⟨_, rfl, _, rfl, 2, rfl, sl2 w.inn great fun r10 M10 H10 g10 k10 => ?_⟩
    replace w := w.grow g10
    replace top := top.trans g10.ex
    replace great := great.mono g10.ex
    refine ⟨_, rfl, rd_t2 (great.mono w.inn) ⟨_, _, rfl, rfl, ?_⟩⟩
    refine ⟨szL rfl, fun p11 pn11 => ?_⟩
    generalize e11 : upd H10 p11 _ = H11
    obtain ⟨M11, g11, hp11⟩ := new_of e11 w.inn pn11
    replace w := w.grow g11
    replace top := top.trans g11.ex
    replace great := great.mono g11.ex
    replace k10 := k10.mono g11.ex
    refine cat3 w.inn k10 rfl hp11 fun r12 M12 H12 g12 k12 => ?_
    replace w := w.grow g12
    replace top := top.trans g12.ex
    replace great := great.mono g12.ex
    have gb2 : B (10 ^ 50) ((G1, G2, G3 + 1) : T3) := by
      obtain ⟨y1, y2, y3⟩ := gb
      refine ⟨?_, ?_, ?_⟩ <;> simp only at * <;> omega
    refine ⟨_, _, _, rfl, M12, 10 ^ 50, _, _, false, w.inn, great, k12, rfl, gb.up (by decide +kernel), gb2, by decide +kernel, ⟨fun z => absurd z (by decide), fun ⟨c, z⟩ => absurd z (gd c)⟩, fun M13 H13 g13 => ?_⟩
    exact q H13 ((top.trans g13.ex).trans g13.inn)
end

end K64

namespace K64
open PySem PySem.Spec PyProof.Rows L2 Own
section
variable {P : Program} {w : World} {K : PySem.W.Frag} {mg : Str → Option Value} {base : Heap} {a : Ad}
/-- the law -/
def spLaw (K : PySem.W.Frag) : Sp := sp1 fun x H Q => ∃ p, ∃ ns : List Int, x = .ref p ∧ SqL K H p (ns.map V.int) ∧ ns.length ≤ 63 ∧ ∀ H', Q (.bl true) H'
theorem ok_law (T : Txt K mg a) : FnG P w K mg base 14 a.f_law a.d_law ["_law_script"] (spLaw K) := by
  refine okG T.F_law sc_law (len1 rfl) (fun cdv A outer s H vs Q E hg hr h => ?_)
  obtain ⟨_, rfl, p, ns, rfl, hS, hl, q⟩ := h
  refine ⟨_, (pss_one (ps_ret (pe_callB (cr_all rfl) (by rfl) T.z_all (by decide +kernel) (pa_cons (pe_lc (own := [("_law_turn", 1)]) (g := gName 1) (tt := tYes) rfl sc_law.nd (pi_range1 (by rfl) T.z_range (pa_cons pe_int pa_nil)) (blkOk_by (own := [("_law_turn", 1)]) (N := ["_law_script", "_law_turn"]) (sc := defScope s_law) (by decide +kernel)) (fun _ _ _ _ _ => (pg_name (i := 1) sc_law.nd rfl (.inl rfl))) (fun _ _ _ _ _ => pts_nil) (fun _ _ _ _ _ => (pe_callG (ok_l_right T) hg (hr.mono (by decide)) (by rfl) T.g_l_right T.F_l_right.kp T.b_l_right (pa_cons (pe_call (ok_l_reel T) (hr.mono (by decide)) (by rfl) T.g_l_reel T.F_l_reel.kp T.b_l_reel .nil pass0 (pa_cons (pv 0) (pa_cons (pv 1) pa_nil))) pa_nil)))) pa_nil)))), ?_⟩
  refine ⟨2, rfl, by decide, by decide, fun D nD => ?_⟩
  refine lc_range (n := 2) (fun i H' => Same H H' ∧ H' D = some (.lst ((List.replicate i true).map V.bl))) ?_ ?_ ?_
  · exact ⟨same_new nD, upd_same⟩
  · rintro i H1 hi ⟨e1, d1⟩
    refine ⟨rfl, yes_if ?_⟩
    refine ⟨_, rfl, _, rfl, _, _, rfl, p, ns, _, rfl, rfl, e1.seq hS, hl, by omega, fun v H2 x y e2 nv hv hx => ?_⟩
    refine ⟨_, rfl, v, H1, rfl, ⟨e2, nv, x, y, 1, hv, hx, by decide, by decide⟩, fun H3 e3 => ?_⟩
    refine ⟨_, e3 _ _ d1, ?_, ?_, ?_⟩
    · rw [List.length_map, List.length_replicate]
      exact small1000 (by omega)
    · intro b o h
      rw [upd_ne (ne_of_none h nD)]
      exact e3 _ _ (e1 _ _ h)
    · rw [upd_same, List.replicate_succ', List.map_append]
      rfl
  · rintro H1 ⟨e1, d1⟩
    exact ⟨D, [true, true], rfl, SqL.of d1, q _⟩
end

end K64

namespace K64
open PySem PySem.Spec PyProof.Rows L2 Own
set_option maxHeartbeats 0 in
theorem all_mk {P : Program} {w : World} {K : PySem.W.Frag} {h : Heap} {mg : Str → Option Value} {fa : Addr} (X : K.In h) (G : h.Ns mainGlobals mg) (hfa : mg "law" = some (.ref fa))
    {f_1 : Addr} {od_1 an_1 : Option Addr} {sl_1 : Array (Option Value)} {oc_1 kV_1 dc_1 pm_1 cd_1 ct_1 : Value}
    {f_2 : Addr} {od_2 an_2 : Option Addr} {sl_2 : Array (Option Value)} {oc_2 kV_2 dc_2 pm_2 cd_2 ct_2 : Value}
    {f_3 : Addr} {od_3 an_3 : Option Addr} {sl_3 : Array (Option Value)} {oc_3 kV_3 dc_3 pm_3 cd_3 ct_3 : Value}
    {f_4 : Addr} {od_4 an_4 : Option Addr} {sl_4 : Array (Option Value)} {oc_4 kV_4 dc_4 pm_4 cd_4 ct_4 : Value}
    {f_5 : Addr} {od_5 an_5 : Option Addr} {sl_5 : Array (Option Value)} {oc_5 kV_5 dc_5 pm_5 cd_5 ct_5 : Value}
    {f_6 : Addr} {od_6 an_6 : Option Addr} {sl_6 : Array (Option Value)} {oc_6 kV_6 dc_6 pm_6 cd_6 ct_6 : Value}
    {f_7 : Addr} {od_7 an_7 : Option Addr} {sl_7 : Array (Option Value)} {oc_7 kV_7 dc_7 pm_7 cd_7 ct_7 : Value}
    {f_8 : Addr} {od_8 an_8 : Option Addr} {sl_8 : Array (Option Value)} {oc_8 kV_8 dc_8 pm_8 cd_8 ct_8 : Value}
    {f_9 : Addr} {od_9 an_9 : Option Addr} {sl_9 : Array (Option Value)} {oc_9 kV_9 dc_9 pm_9 cd_9 ct_9 : Value}
    {f_10 : Addr} {od_10 an_10 : Option Addr} {sl_10 : Array (Option Value)} {oc_10 kV_10 dc_10 pm_10 cd_10 ct_10 : Value}
    {f_11 : Addr} {od_11 an_11 : Option Addr} {sl_11 : Array (Option Value)} {oc_11 kV_11 dc_11 pm_11 cd_11 ct_11 : Value}
    {f_12 : Addr} {od_12 an_12 : Option Addr} {sl_12 : Array (Option Value)} {oc_12 kV_12 dc_12 pm_12 cd_12 ct_12 : Value}
    {f_13 : Addr} {od_13 an_13 : Option Addr} {sl_13 : Array (Option Value)} {oc_13 kV_13 dc_13 pm_13 cd_13 ct_13 : Value}
    {f_14 : Addr} {od_14 an_14 : Option Addr} {sl_14 : Array (Option Value)} {oc_14 kV_14 dc_14 pm_14 cd_14 ct_14 : Value}
    {f_15 : Addr} {od_15 an_15 : Option Addr} {sl_15 : Array (Option Value)} {oc_15 kV_15 dc_15 pm_15 cd_15 ct_15 : Value}
    {f_16 : Addr} {od_16 an_16 : Option Addr} {sl_16 : Array (Option Value)} {oc_16 kV_16 dc_16 pm_16 cd_16 ct_16 : Value}
    {f_17 : Addr} {od_17 an_17 : Option Addr} {sl_17 : Array (Option Value)} {oc_17 kV_17 dc_17 pm_17 cd_17 ct_17 : Value}
    {f_18 : Addr} {od_18 an_18 : Option Addr} {sl_18 : Array (Option Value)} {oc_18 kV_18 dc_18 pm_18 cd_18 ct_18 : Value}
    {f_19 : Addr} {od_19 an_19 : Option Addr} {sl_19 : Array (Option Value)} {oc_19 kV_19 dc_19 pm_19 cd_19 ct_19 : Value}
    {f_20 : Addr} {od_20 an_20 : Option Addr} {sl_20 : Array (Option Value)} {oc_20 kV_20 dc_20 pm_20 cd_20 ct_20 : Value}
    {f_21 : Addr} {od_21 an_21 : Option Addr} {sl_21 : Array (Option Value)} {oc_21 kV_21 dc_21 pm_21 cd_21 ct_21 : Value}
    {f_22 : Addr} {od_22 an_22 : Option Addr} {sl_22 : Array (Option Value)} {oc_22 kV_22 dc_22 pm_22 cd_22 ct_22 : Value}
    {f_23 : Addr} {od_23 an_23 : Option Addr} {sl_23 : Array (Option Value)} {oc_23 kV_23 dc_23 pm_23 cd_23 ct_23 : Value}
    {f_24 : Addr} {od_24 an_24 : Option Addr} {sl_24 : Array (Option Value)} {oc_24 kV_24 dc_24 pm_24 cd_24 ct_24 : Value}
    {f_25 : Addr} {od_25 an_25 : Option Addr} {sl_25 : Array (Option Value)} {oc_25 kV_25 dc_25 pm_25 cd_25 ct_25 : Value}
    {f_26 : Addr} {od_26 an_26 : Option Addr} {sl_26 : Array (Option Value)} {oc_26 kV_26 dc_26 pm_26 cd_26 ct_26 : Value}
    {f_27 : Addr} {od_27 an_27 : Option Addr} {sl_27 : Array (Option Value)} {oc_27 kV_27 dc_27 pm_27 cd_27 ct_27 : Value}
    {f_28 : Addr} {od_28 an_28 : Option Addr} {sl_28 : Array (Option Value)} {oc_28 kV_28 dc_28 pm_28 cd_28 ct_28 : Value}
    {f_29 : Addr} {od_29 an_29 : Option Addr} {sl_29 : Array (Option Value)} {oc_29 kV_29 dc_29 pm_29 cd_29 ct_29 : Value}
    {f_30 : Addr} {od_30 an_30 : Option Addr} {sl_30 : Array (Option Value)} {oc_30 kV_30 dc_30 pm_30 cd_30 ct_30 : Value}
    {f_31 : Addr} {od_31 an_31 : Option Addr} {sl_31 : Array (Option Value)} {oc_31 kV_31 dc_31 pm_31 cd_31 ct_31 : Value}
    {f_32 : Addr} {od_32 an_32 : Option Addr} {sl_32 : Array (Option Value)} {oc_32 kV_32 dc_32 pm_32 cd_32 ct_32 : Value}
    {f_33 : Addr} {od_33 an_33 : Option Addr} {sl_33 : Array (Option Value)} {oc_33 kV_33 dc_33 pm_33 cd_33 ct_33 : Value}
    {f_34 : Addr} {od_34 an_34 : Option Addr} {sl_34 : Array (Option Value)} {oc_34 kV_34 dc_34 pm_34 cd_34 ct_34 : Value}
    {f_35 : Addr} {od_35 an_35 : Option Addr} {sl_35 : Array (Option Value)} {oc_35 kV_35 dc_35 pm_35 cd_35 ct_35 : Value}
    {f_36 : Addr} {od_36 an_36 : Option Addr} {sl_36 : Array (Option Value)} {oc_36 kV_36 dc_36 pm_36 cd_36 ct_36 : Value}
    {f_37 : Addr} {od_37 an_37 : Option Addr} {sl_37 : Array (Option Value)} {oc_37 kV_37 dc_37 pm_37 cd_37 ct_37 : Value}
    {C_Move : Addr}
    {p_Move_east : Addr} {rest_Move_east : List Value}
    {p_Move_north : Addr} {rest_Move_north : List Value}
    {p_Move_area : Addr} {rest_Move_area : List Value}
    (a_1 : PySem.W.nsIn K mainGlobals "is_integer" = some (some (.ref f_1)))
    (a_2 : PySem.W.nsIn K mainGlobals "is_shared" = some (some (.ref f_2)))
    (a_3 : PySem.W.nsIn K mainGlobals "combined" = some (some (.ref f_3)))
    (a_4 : PySem.W.nsIn K mainGlobals "check_whole" = some (some (.ref f_4)))
    (a_11 : PySem.W.nsIn K mainGlobals "check_move" = some (some (.ref f_11)))
    (a_12 : PySem.W.nsIn K mainGlobals "check_moves" = some (some (.ref f_12)))
    (a_13 : PySem.W.nsIn K mainGlobals "triple" = some (some (.ref f_13)))
    (a_14 : PySem.W.nsIn K mainGlobals "gap_of" = some (some (.ref f_14)))
    (a_15 : PySem.W.nsIn K mainGlobals "made_move" = some (some (.ref f_15)))
    (a_16 : PySem.W.nsIn K mainGlobals "link_of_moves" = some (some (.ref f_16)))
    (a_17 : PySem.W.nsIn K mainGlobals "root_of_move" = some (some (.ref f_17)))
    (a_18 : PySem.W.nsIn K mainGlobals "is_move_alike" = some (some (.ref f_18)))
    (a_19 : PySem.W.nsIn K mainGlobals "move_alike" = some (some (.ref f_19)))
    (a_20 : PySem.W.nsIn K mainGlobals "do_moves_commute" = some (some (.ref f_20)))
    (a_21 : PySem.W.nsIn K mainGlobals "move_root" = some (some (.ref f_21)))
    (a_22 : PySem.W.nsIn K mainGlobals "_law_reel" = some (some (.ref f_22)))
    (a_23 : PySem.W.nsIn K mainGlobals "_law_wind" = some (some (.ref f_23)))
    (a_24 : PySem.W.nsIn K mainGlobals "_law_one_of" = some (some (.ref f_24)))
    (a_25 : PySem.W.nsIn K mainGlobals "_law_trip" = some (some (.ref f_25)))
    (a_26 : PySem.W.nsIn K mainGlobals "_law_put" = some (some (.ref f_26)))
    (a_27 : PySem.W.nsIn K mainGlobals "_law_off" = some (some (.ref f_27)))
    (a_28 : PySem.W.nsIn K mainGlobals "_law_power" = some (some (.ref f_28)))
    (a_29 : PySem.W.nsIn K mainGlobals "_law_move" = some (some (.ref f_29)))
    (a_30 : PySem.W.nsIn K mainGlobals "_law_three" = some (some (.ref f_30)))
    (a_31 : PySem.W.nsIn K mainGlobals "_law_between" = some (some (.ref f_31)))
    (a_32 : PySem.W.nsIn K mainGlobals "_law_are_alike" = some (some (.ref f_32)))
    (a_33 : PySem.W.nsIn K mainGlobals "_law_alike_right" = some (some (.ref f_33)))
    (a_34 : PySem.W.nsIn K mainGlobals "_law_has_root" = some (some (.ref f_34)))
    (a_35 : PySem.W.nsIn K mainGlobals "_law_roots_right" = some (some (.ref f_35)))
    (a_36 : PySem.W.nsIn K mainGlobals "_law_right" = some (some (.ref f_36)))
    (a_37 : PySem.W.nsIn K mainGlobals "law" = some (some (.ref f_37)))
    (q_Move : PySem.W.nsIn K mainGlobals "Move" = some (some (.ref C_Move)))
    (pa_Move_east : PySem.W.findIn K (.ref C_Move) "east" = some (some (.ref p_Move_east)))
    (pg_Move_east : PySem.W.specialIn K (.ref p_Move_east) "__get__" = some (some (.builtin "property.__get__")))
    (pt_Move_east : PySem.W.takesIn K (.ref p_Move_east) = some true)
    (pr_Move_east : PySem.W.recIn K p_Move_east "property" = some (.ref f_6 :: rest_Move_east))
    (pa_Move_north : PySem.W.findIn K (.ref C_Move) "north" = some (some (.ref p_Move_north)))
    (pg_Move_north : PySem.W.specialIn K (.ref p_Move_north) "__get__" = some (some (.builtin "property.__get__")))
    (pt_Move_north : PySem.W.takesIn K (.ref p_Move_north) = some true)
    (pr_Move_north : PySem.W.recIn K p_Move_north "property" = some (.ref f_7 :: rest_Move_north))
    (pa_Move_area : PySem.W.findIn K (.ref C_Move) "area" = some (some (.ref p_Move_area)))
    (pg_Move_area : PySem.W.specialIn K (.ref p_Move_area) "__get__" = some (some (.builtin "property.__get__")))
    (pt_Move_area : PySem.W.takesIn K (.ref p_Move_area) = some true)
    (pr_Move_area : PySem.W.recIn K p_Move_area "property" = some (.ref f_8 :: rest_Move_area))
    (in_Move : PySem.W.findIn K (.ref C_Move) "__init__" = some (some (.ref f_5)))
    (if_Move : PySem.W.isFn K (.ref f_5) = true)
    (mk_Move : PySem.W.makesIn K C_Move = true)
    (kc_Move : PySem.W.keepIn K (.ref C_Move) = true)
    (pg_Move : PySem.W.plainGet K C_Move Str.empty = true)
    (hd_Move : PySem.W.hasDictIn K C_Move = true)
    (po_Move : PySem.W.plainOver K C_Move = true)
    (sa_Move : PySem.W.findIn K (.ref C_Move) "__setattr__" = some (some (.builtin "object.__setattr__")))
    (ha_Move : PySem.W.findIn K (.ref C_Move) "__class__" = some (some (.builtin "object.__class__")))
    (hn_Move : PySem.W.specialIn K (.builtin "object.__class__") "__get__" = some (some (.builtin "getset_descriptor.__get__")))
    (ht_Move : PySem.W.takesIn K (.builtin "object.__class__") = some true)
    (hm_Move : PySem.W.mroIn K C_Move (.type "object") = some true)
    (nf_Move_own_east : PySem.W.findIn K (.ref C_Move) "own_east" = some none)
    (nf_Move_own_north : PySem.W.findIn K (.ref C_Move) "own_north" = some none)
    (nf_Move_own_area : PySem.W.findIn K (.ref C_Move) "own_area" = some none)
    (st_Move : PySem.W.findIn K (.ref C_Move) "__str__" = some (some (.ref f_9)))
    (sf_Move : PySem.W.isFn K (.ref f_9) = true)
    (eq_Move : PySem.W.findIn K (.ref C_Move) "__eq__" = some (some (.ref f_10)))
    (ef_Move : PySem.W.isFn K (.ref f_10) = true)
    (ne_Move : PySem.W.findIn K (.ref C_Move) "__ne__" = some (some (.builtin "object.__ne__")))
    (l_1 : K.lookup f_1 = some ⟨oc_1, od_1, .func (PySem.W.fnOf "is_integer" "is_integer" (defArgs s_is_integer) (defBody s_is_integer) (defScope s_is_integer) .none kV_1 dc_1 pm_1 an_1 cd_1 ct_1), sl_1⟩)
    (c_1 : PySem.W.codeIn K cd_1 "is_integer" = true)
    (k_1 : PySem.W.keepIn K (.ref f_1) = true)
    (l_2 : K.lookup f_2 = some ⟨oc_2, od_2, .func (PySem.W.fnOf "is_shared" "is_shared" (defArgs s_is_shared) (defBody s_is_shared) (defScope s_is_shared) .none kV_2 dc_2 pm_2 an_2 cd_2 ct_2), sl_2⟩)
    (c_2 : PySem.W.codeIn K cd_2 "is_shared" = true)
    (k_2 : PySem.W.keepIn K (.ref f_2) = true)
    (l_3 : K.lookup f_3 = some ⟨oc_3, od_3, .func (PySem.W.fnOf "combined" "combined" (defArgs s_combined) (defBody s_combined) (defScope s_combined) .none kV_3 dc_3 pm_3 an_3 cd_3 ct_3), sl_3⟩)
    (c_3 : PySem.W.codeIn K cd_3 "combined" = true)
    (k_3 : PySem.W.keepIn K (.ref f_3) = true)
    (l_4 : K.lookup f_4 = some ⟨oc_4, od_4, .func (PySem.W.fnOf "check_whole" "check_whole" (defArgs s_check_whole) (defBody s_check_whole) (defScope s_check_whole) .none kV_4 dc_4 pm_4 an_4 cd_4 ct_4), sl_4⟩)
    (c_4 : PySem.W.codeIn K cd_4 "check_whole" = true)
    (k_4 : PySem.W.keepIn K (.ref f_4) = true)
    (l_5 : K.lookup f_5 = some ⟨oc_5, od_5, .func (PySem.W.fnOf "__init__" "Move.__init__" (defArgs s_Move_init) (defBody s_Move_init) (defScope s_Move_init) .none kV_5 dc_5 pm_5 an_5 cd_5 ct_5), sl_5⟩)
    (c_5 : PySem.W.codeIn K cd_5 "Move.__init__" = true)
    (k_5 : PySem.W.keepIn K (.ref f_5) = true)
    (l_6 : K.lookup f_6 = some ⟨oc_6, od_6, .func (PySem.W.fnOf "east" "Move.east" (defArgs s_Move_east) (defBody s_Move_east) (defScope s_Move_east) .none kV_6 dc_6 pm_6 an_6 cd_6 ct_6), sl_6⟩)
    (c_6 : PySem.W.codeIn K cd_6 "Move.east" = true)
    (k_6 : PySem.W.keepIn K (.ref f_6) = true)
    (l_7 : K.lookup f_7 = some ⟨oc_7, od_7, .func (PySem.W.fnOf "north" "Move.north" (defArgs s_Move_north) (defBody s_Move_north) (defScope s_Move_north) .none kV_7 dc_7 pm_7 an_7 cd_7 ct_7), sl_7⟩)
    (c_7 : PySem.W.codeIn K cd_7 "Move.north" = true)
    (k_7 : PySem.W.keepIn K (.ref f_7) = true)
    (l_8 : K.lookup f_8 = some ⟨oc_8, od_8, .func (PySem.W.fnOf "area" "Move.area" (defArgs s_Move_area) (defBody s_Move_area) (defScope s_Move_area) .none kV_8 dc_8 pm_8 an_8 cd_8 ct_8), sl_8⟩)
    (c_8 : PySem.W.codeIn K cd_8 "Move.area" = true)
    (k_8 : PySem.W.keepIn K (.ref f_8) = true)
    (l_9 : K.lookup f_9 = some ⟨oc_9, od_9, .func (PySem.W.fnOf "__str__" "Move.__str__" (defArgs s_Move_str) (defBody s_Move_str) (defScope s_Move_str) .none kV_9 dc_9 pm_9 an_9 cd_9 ct_9), sl_9⟩)
    (c_9 : PySem.W.codeIn K cd_9 "Move.__str__" = true)
    (k_9 : PySem.W.keepIn K (.ref f_9) = true)
    (l_10 : K.lookup f_10 = some ⟨oc_10, od_10, .func (PySem.W.fnOf "__eq__" "Move.__eq__" (defArgs s_Move_eq) (defBody s_Move_eq) (defScope s_Move_eq) .none kV_10 dc_10 pm_10 an_10 cd_10 ct_10), sl_10⟩)
    (c_10 : PySem.W.codeIn K cd_10 "Move.__eq__" = true)
    (k_10 : PySem.W.keepIn K (.ref f_10) = true)
    (l_11 : K.lookup f_11 = some ⟨oc_11, od_11, .func (PySem.W.fnOf "check_move" "check_move" (defArgs s_check_move) (defBody s_check_move) (defScope s_check_move) .none kV_11 dc_11 pm_11 an_11 cd_11 ct_11), sl_11⟩)
    (c_11 : PySem.W.codeIn K cd_11 "check_move" = true)
    (k_11 : PySem.W.keepIn K (.ref f_11) = true)
    (l_12 : K.lookup f_12 = some ⟨oc_12, od_12, .func (PySem.W.fnOf "check_moves" "check_moves" (defArgs s_check_moves) (defBody s_check_moves) (defScope s_check_moves) .none kV_12 dc_12 pm_12 an_12 cd_12 ct_12), sl_12⟩)
    (c_12 : PySem.W.codeIn K cd_12 "check_moves" = true)
    (k_12 : PySem.W.keepIn K (.ref f_12) = true)
    (l_13 : K.lookup f_13 = some ⟨oc_13, od_13, .func (PySem.W.fnOf "triple" "triple" (defArgs s_triple) (defBody s_triple) (defScope s_triple) .none kV_13 dc_13 pm_13 an_13 cd_13 ct_13), sl_13⟩)
    (c_13 : PySem.W.codeIn K cd_13 "triple" = true)
    (k_13 : PySem.W.keepIn K (.ref f_13) = true)
    (l_14 : K.lookup f_14 = some ⟨oc_14, od_14, .func (PySem.W.fnOf "gap_of" "gap_of" (defArgs s_gap_of) (defBody s_gap_of) (defScope s_gap_of) .none kV_14 dc_14 pm_14 an_14 cd_14 ct_14), sl_14⟩)
    (c_14 : PySem.W.codeIn K cd_14 "gap_of" = true)
    (k_14 : PySem.W.keepIn K (.ref f_14) = true)
    (l_15 : K.lookup f_15 = some ⟨oc_15, od_15, .func (PySem.W.fnOf "made_move" "made_move" (defArgs s_made_move) (defBody s_made_move) (defScope s_made_move) .none kV_15 dc_15 pm_15 an_15 cd_15 ct_15), sl_15⟩)
    (c_15 : PySem.W.codeIn K cd_15 "made_move" = true)
    (k_15 : PySem.W.keepIn K (.ref f_15) = true)
    (l_16 : K.lookup f_16 = some ⟨oc_16, od_16, .func (PySem.W.fnOf "link_of_moves" "link_of_moves" (defArgs s_link_of_moves) (defBody s_link_of_moves) (defScope s_link_of_moves) .none kV_16 dc_16 pm_16 an_16 cd_16 ct_16), sl_16⟩)
    (c_16 : PySem.W.codeIn K cd_16 "link_of_moves" = true)
    (k_16 : PySem.W.keepIn K (.ref f_16) = true)
    (l_17 : K.lookup f_17 = some ⟨oc_17, od_17, .func (PySem.W.fnOf "root_of_move" "root_of_move" (defArgs s_root_of_move) (defBody s_root_of_move) (defScope s_root_of_move) .none kV_17 dc_17 pm_17 an_17 cd_17 ct_17), sl_17⟩)
    (c_17 : PySem.W.codeIn K cd_17 "root_of_move" = true)
    (k_17 : PySem.W.keepIn K (.ref f_17) = true)
    (l_18 : K.lookup f_18 = some ⟨oc_18, od_18, .func (PySem.W.fnOf "is_move_alike" "is_move_alike" (defArgs s_is_move_alike) (defBody s_is_move_alike) (defScope s_is_move_alike) .none kV_18 dc_18 pm_18 an_18 cd_18 ct_18), sl_18⟩)
    (c_18 : PySem.W.codeIn K cd_18 "is_move_alike" = true)
    (k_18 : PySem.W.keepIn K (.ref f_18) = true)
    (l_19 : K.lookup f_19 = some ⟨oc_19, od_19, .func (PySem.W.fnOf "move_alike" "move_alike" (defArgs s_move_alike) (defBody s_move_alike) (defScope s_move_alike) .none kV_19 dc_19 pm_19 an_19 cd_19 ct_19), sl_19⟩)
    (c_19 : PySem.W.codeIn K cd_19 "move_alike" = true)
    (k_19 : PySem.W.keepIn K (.ref f_19) = true)
    (l_20 : K.lookup f_20 = some ⟨oc_20, od_20, .func (PySem.W.fnOf "do_moves_commute" "do_moves_commute" (defArgs s_do_moves_commute) (defBody s_do_moves_commute) (defScope s_do_moves_commute) .none kV_20 dc_20 pm_20 an_20 cd_20 ct_20), sl_20⟩)
    (c_20 : PySem.W.codeIn K cd_20 "do_moves_commute" = true)
    (k_20 : PySem.W.keepIn K (.ref f_20) = true)
    (l_21 : K.lookup f_21 = some ⟨oc_21, od_21, .func (PySem.W.fnOf "move_root" "move_root" (defArgs s_move_root) (defBody s_move_root) (defScope s_move_root) .none kV_21 dc_21 pm_21 an_21 cd_21 ct_21), sl_21⟩)
    (c_21 : PySem.W.codeIn K cd_21 "move_root" = true)
    (k_21 : PySem.W.keepIn K (.ref f_21) = true)
    (l_22 : K.lookup f_22 = some ⟨oc_22, od_22, .func (PySem.W.fnOf "_law_reel" "_law_reel" (defArgs s_l_reel) (defBody s_l_reel) (defScope s_l_reel) .none kV_22 dc_22 pm_22 an_22 cd_22 ct_22), sl_22⟩)
    (c_22 : PySem.W.codeIn K cd_22 "_law_reel" = true)
    (k_22 : PySem.W.keepIn K (.ref f_22) = true)
    (l_23 : K.lookup f_23 = some ⟨oc_23, od_23, .func (PySem.W.fnOf "_law_wind" "_law_wind" (defArgs s_l_wind) (defBody s_l_wind) (defScope s_l_wind) .none kV_23 dc_23 pm_23 an_23 cd_23 ct_23), sl_23⟩)
    (c_23 : PySem.W.codeIn K cd_23 "_law_wind" = true)
    (k_23 : PySem.W.keepIn K (.ref f_23) = true)
    (l_24 : K.lookup f_24 = some ⟨oc_24, od_24, .func (PySem.W.fnOf "_law_one_of" "_law_one_of" (defArgs s_l_one_of) (defBody s_l_one_of) (defScope s_l_one_of) .none kV_24 dc_24 pm_24 an_24 cd_24 ct_24), sl_24⟩)
    (c_24 : PySem.W.codeIn K cd_24 "_law_one_of" = true)
    (k_24 : PySem.W.keepIn K (.ref f_24) = true)
    (l_25 : K.lookup f_25 = some ⟨oc_25, od_25, .func (PySem.W.fnOf "_law_trip" "_law_trip" (defArgs s_l_trip) (defBody s_l_trip) (defScope s_l_trip) .none kV_25 dc_25 pm_25 an_25 cd_25 ct_25), sl_25⟩)
    (c_25 : PySem.W.codeIn K cd_25 "_law_trip" = true)
    (k_25 : PySem.W.keepIn K (.ref f_25) = true)
    (l_26 : K.lookup f_26 = some ⟨oc_26, od_26, .func (PySem.W.fnOf "_law_put" "_law_put" (defArgs s_l_put) (defBody s_l_put) (defScope s_l_put) .none kV_26 dc_26 pm_26 an_26 cd_26 ct_26), sl_26⟩)
    (c_26 : PySem.W.codeIn K cd_26 "_law_put" = true)
    (k_26 : PySem.W.keepIn K (.ref f_26) = true)
    (l_27 : K.lookup f_27 = some ⟨oc_27, od_27, .func (PySem.W.fnOf "_law_off" "_law_off" (defArgs s_l_off) (defBody s_l_off) (defScope s_l_off) .none kV_27 dc_27 pm_27 an_27 cd_27 ct_27), sl_27⟩)
    (c_27 : PySem.W.codeIn K cd_27 "_law_off" = true)
    (k_27 : PySem.W.keepIn K (.ref f_27) = true)
    (l_28 : K.lookup f_28 = some ⟨oc_28, od_28, .func (PySem.W.fnOf "_law_power" "_law_power" (defArgs s_l_power) (defBody s_l_power) (defScope s_l_power) .none kV_28 dc_28 pm_28 an_28 cd_28 ct_28), sl_28⟩)
    (c_28 : PySem.W.codeIn K cd_28 "_law_power" = true)
    (k_28 : PySem.W.keepIn K (.ref f_28) = true)
    (l_29 : K.lookup f_29 = some ⟨oc_29, od_29, .func (PySem.W.fnOf "_law_move" "_law_move" (defArgs s_l_move) (defBody s_l_move) (defScope s_l_move) .none kV_29 dc_29 pm_29 an_29 cd_29 ct_29), sl_29⟩)
    (c_29 : PySem.W.codeIn K cd_29 "_law_move" = true)
    (k_29 : PySem.W.keepIn K (.ref f_29) = true)
    (l_30 : K.lookup f_30 = some ⟨oc_30, od_30, .func (PySem.W.fnOf "_law_three" "_law_three" (defArgs s_l_three) (defBody s_l_three) (defScope s_l_three) .none kV_30 dc_30 pm_30 an_30 cd_30 ct_30), sl_30⟩)
    (c_30 : PySem.W.codeIn K cd_30 "_law_three" = true)
    (k_30 : PySem.W.keepIn K (.ref f_30) = true)
    (l_31 : K.lookup f_31 = some ⟨oc_31, od_31, .func (PySem.W.fnOf "_law_between" "_law_between" (defArgs s_l_between) (defBody s_l_between) (defScope s_l_between) .none kV_31 dc_31 pm_31 an_31 cd_31 ct_31), sl_31⟩)
    (c_31 : PySem.W.codeIn K cd_31 "_law_between" = true)
    (k_31 : PySem.W.keepIn K (.ref f_31) = true)
    (l_32 : K.lookup f_32 = some ⟨oc_32, od_32, .func (PySem.W.fnOf "_law_are_alike" "_law_are_alike" (defArgs s_l_are_alike) (defBody s_l_are_alike) (defScope s_l_are_alike) .none kV_32 dc_32 pm_32 an_32 cd_32 ct_32), sl_32⟩)
    (c_32 : PySem.W.codeIn K cd_32 "_law_are_alike" = true)
    (k_32 : PySem.W.keepIn K (.ref f_32) = true)
    (l_33 : K.lookup f_33 = some ⟨oc_33, od_33, .func (PySem.W.fnOf "_law_alike_right" "_law_alike_right" (defArgs s_l_alike_right) (defBody s_l_alike_right) (defScope s_l_alike_right) .none kV_33 dc_33 pm_33 an_33 cd_33 ct_33), sl_33⟩)
    (c_33 : PySem.W.codeIn K cd_33 "_law_alike_right" = true)
    (k_33 : PySem.W.keepIn K (.ref f_33) = true)
    (l_34 : K.lookup f_34 = some ⟨oc_34, od_34, .func (PySem.W.fnOf "_law_has_root" "_law_has_root" (defArgs s_l_has_root) (defBody s_l_has_root) (defScope s_l_has_root) .none kV_34 dc_34 pm_34 an_34 cd_34 ct_34), sl_34⟩)
    (c_34 : PySem.W.codeIn K cd_34 "_law_has_root" = true)
    (k_34 : PySem.W.keepIn K (.ref f_34) = true)
    (l_35 : K.lookup f_35 = some ⟨oc_35, od_35, .func (PySem.W.fnOf "_law_roots_right" "_law_roots_right" (defArgs s_l_roots_right) (defBody s_l_roots_right) (defScope s_l_roots_right) .none kV_35 dc_35 pm_35 an_35 cd_35 ct_35), sl_35⟩)
    (c_35 : PySem.W.codeIn K cd_35 "_law_roots_right" = true)
    (k_35 : PySem.W.keepIn K (.ref f_35) = true)
    (l_36 : K.lookup f_36 = some ⟨oc_36, od_36, .func (PySem.W.fnOf "_law_right" "_law_right" (defArgs s_l_right) (defBody s_l_right) (defScope s_l_right) .none kV_36 dc_36 pm_36 an_36 cd_36 ct_36), sl_36⟩)
    (c_36 : PySem.W.codeIn K cd_36 "_law_right" = true)
    (k_36 : PySem.W.keepIn K (.ref f_36) = true)
    (l_37 : K.lookup f_37 = some ⟨oc_37, od_37, .func (PySem.W.fnOf "law" "law" (defArgs s_law) (defBody s_law) (defScope s_law) .none kV_37 dc_37 pm_37 an_37 cd_37 ct_37), sl_37⟩)
    (c_37 : PySem.W.codeIn K cd_37 "law" = true)
    (k_37 : PySem.W.keepIn K (.ref f_37) = true)
    (z_abs : PySem.W.nsIn K mainGlobals "abs" = some none)
    (z_all : PySem.W.nsIn K mainGlobals "all" = some none)
    (z_bool : PySem.W.nsIn K mainGlobals "bool" = some none)
    (z_divmod : PySem.W.nsIn K mainGlobals "divmod" = some none)
    (z_int : PySem.W.nsIn K mainGlobals "int" = some none)
    (z_isinstance : PySem.W.nsIn K mainGlobals "isinstance" = some none)
    (z_len : PySem.W.nsIn K mainGlobals "len" = some none)
    (z_range : PySem.W.nsIn K mainGlobals "range" = some none)
    (z_repr : PySem.W.nsIn K mainGlobals "repr" = some none)
    (z_str : PySem.W.nsIn K mainGlobals "str" = some none)
    (z_tuple : PySem.W.nsIn K mainGlobals "tuple" = some none)
    : ∃ fd : FuncData, (∀ (s : Shared) (v : Value), BindsTo s fd ⟨[v], []⟩ [("_law_script", v)]) ∧
      ∀ base : Heap, K.In base → base.Ns mainGlobals mg → FnG P w K mg base 14 fa fd ["_law_script"] (spLaw K) := by
  have e := hfa.symm.trans (PySem.W.mg_of X G a_37)
  cases e
  have F_1 := fun_mk (st := s_is_integer) l_1 c_1 k_1
  have F_2 := fun_mk (st := s_is_shared) l_2 c_2 k_2
  have F_3 := fun_mk (st := s_combined) l_3 c_3 k_3
  have F_4 := fun_mk (st := s_check_whole) l_4 c_4 k_4
  have F_5 := fun_mk (st := s_Move_init) l_5 c_5 k_5
  have F_6 := fun_mk (st := s_Move_east) l_6 c_6 k_6
  have F_7 := fun_mk (st := s_Move_north) l_7 c_7 k_7
  have F_8 := fun_mk (st := s_Move_area) l_8 c_8 k_8
  have F_9 := fun_mk (st := s_Move_str) l_9 c_9 k_9
  have F_10 := fun_mk (st := s_Move_eq) l_10 c_10 k_10
  have F_11 := fun_mk (st := s_check_move) l_11 c_11 k_11
  have F_12 := fun_mk (st := s_check_moves) l_12 c_12 k_12
  have F_13 := fun_mk (st := s_triple) l_13 c_13 k_13
  have F_14 := fun_mk (st := s_gap_of) l_14 c_14 k_14
  have F_15 := fun_mk (st := s_made_move) l_15 c_15 k_15
  have F_16 := fun_mk (st := s_link_of_moves) l_16 c_16 k_16
  have F_17 := fun_mk (st := s_root_of_move) l_17 c_17 k_17
  have F_18 := fun_mk (st := s_is_move_alike) l_18 c_18 k_18
  have F_19 := fun_mk (st := s_move_alike) l_19 c_19 k_19
  have F_20 := fun_mk (st := s_do_moves_commute) l_20 c_20 k_20
  have F_21 := fun_mk (st := s_move_root) l_21 c_21 k_21
  have F_22 := fun_mk (st := s_l_reel) l_22 c_22 k_22
  have F_23 := fun_mk (st := s_l_wind) l_23 c_23 k_23
  have F_24 := fun_mk (st := s_l_one_of) l_24 c_24 k_24
  have F_25 := fun_mk (st := s_l_trip) l_25 c_25 k_25
  have F_26 := fun_mk (st := s_l_put) l_26 c_26 k_26
  have F_27 := fun_mk (st := s_l_off) l_27 c_27 k_27
  have F_28 := fun_mk (st := s_l_power) l_28 c_28 k_28
  have F_29 := fun_mk (st := s_l_move) l_29 c_29 k_29
  have F_30 := fun_mk (st := s_l_three) l_30 c_30 k_30
  have F_31 := fun_mk (st := s_l_between) l_31 c_31 k_31
  have F_32 := fun_mk (st := s_l_are_alike) l_32 c_32 k_32
  have F_33 := fun_mk (st := s_l_alike_right) l_33 c_33 k_33
  have F_34 := fun_mk (st := s_l_has_root) l_34 c_34 k_34
  have F_35 := fun_mk (st := s_l_roots_right) l_35 c_35 k_35
  have F_36 := fun_mk (st := s_l_right) l_36 c_36 k_36
  have F_37 := fun_mk (st := s_law) l_37 c_37 k_37
  have T : Txt K mg { f_is_integer := f_1, d_is_integer := _, f_is_shared := f_2, d_is_shared := _, f_combined := f_3, d_combined := _, f_check_whole := f_4, d_check_whole := _, f_Move_init := f_5, d_Move_init := _, f_Move_east := f_6, d_Move_east := _, f_Move_north := f_7, d_Move_north := _, f_Move_area := f_8, d_Move_area := _, f_Move_str := f_9, d_Move_str := _, f_Move_eq := f_10, d_Move_eq := _, f_check_move := f_11, d_check_move := _, f_check_moves := f_12, d_check_moves := _, f_triple := f_13, d_triple := _, f_gap_of := f_14, d_gap_of := _, f_made_move := f_15, d_made_move := _, f_link_of_moves := f_16, d_link_of_moves := _, f_root_of_move := f_17, d_root_of_move := _, f_is_move_alike := f_18, d_is_move_alike := _, f_move_alike := f_19, d_move_alike := _, f_do_moves_commute := f_20, d_do_moves_commute := _, f_move_root := f_21, d_move_root := _, f_l_reel := f_22, d_l_reel := _, f_l_wind := f_23, d_l_wind := _, f_l_one_of := f_24, d_l_one_of := _, f_l_trip := f_25, d_l_trip := _, f_l_put := f_26, d_l_put := _, f_l_off := f_27, d_l_off := _, f_l_power := f_28, d_l_power := _, f_l_move := f_29, d_l_move := _, f_l_three := f_30, d_l_three := _, f_l_between := f_31, d_l_between := _, f_l_are_alike := f_32, d_l_are_alike := _, f_l_alike_right := f_33, d_l_alike_right := _, f_l_has_root := f_34, d_l_has_root := _, f_l_roots_right := f_35, d_l_roots_right := _, f_l_right := f_36, d_l_right := _, f_law := fa, d_law := _, C_Move := C_Move, p_Move_east := p_Move_east, p_Move_north := p_Move_north, p_Move_area := p_Move_area } :=
    { F_is_integer := (F_1)
      b_is_integer := (F_1.binds fun _ _ _ _ _ _ us hl => match us, hl with | [_], _ => rfl)
      g_is_integer := (PySem.W.mg_of X G a_1)
      F_is_shared := (F_2)
      b_is_shared := (F_2.binds fun _ _ _ _ _ _ us hl => match us, hl with | [_, _], _ => rfl)
      g_is_shared := (PySem.W.mg_of X G a_2)
      F_combined := (F_3)
      b_combined := (F_3.binds fun _ _ _ _ _ _ us hl => match us, hl with | [_, _], _ => rfl)
      g_combined := (PySem.W.mg_of X G a_3)
      F_check_whole := (F_4)
      b_check_whole := (F_4.binds fun _ _ _ _ _ _ us hl => match us, hl with | [_], _ => rfl)
      g_check_whole := (PySem.W.mg_of X G a_4)
      F_Move_init := (F_5)
      b_Move_init := (F_5.binds fun _ _ _ _ _ _ us hl => match us, hl with | [_, _, _, _], _ => rfl)
      F_Move_east := (F_6)
      b_Move_east := (F_6.binds fun _ _ _ _ _ _ us hl => match us, hl with | [_], _ => rfl)
      F_Move_north := (F_7)
      b_Move_north := (F_7.binds fun _ _ _ _ _ _ us hl => match us, hl with | [_], _ => rfl)
      F_Move_area := (F_8)
      b_Move_area := (F_8.binds fun _ _ _ _ _ _ us hl => match us, hl with | [_], _ => rfl)
      F_Move_str := (F_9)
      b_Move_str := (F_9.binds fun _ _ _ _ _ _ us hl => match us, hl with | [_], _ => rfl)
      F_Move_eq := (F_10)
      b_Move_eq := (F_10.binds fun _ _ _ _ _ _ us hl => match us, hl with | [_, _], _ => rfl)
      F_check_move := (F_11)
      b_check_move := (F_11.binds fun _ _ _ _ _ _ us hl => match us, hl with | [_], _ => rfl)
      g_check_move := (PySem.W.mg_of X G a_11)
      F_check_moves := (F_12)
      b_check_moves := (F_12.binds fun _ _ _ _ _ _ us hl => match us, hl with | [_, _], _ => rfl)
      g_check_moves := (PySem.W.mg_of X G a_12)
      F_triple := (F_13)
      b_triple := (F_13.binds fun _ _ _ _ _ _ us hl => match us, hl with | [_], _ => rfl)
      g_triple := (PySem.W.mg_of X G a_13)
      F_gap_of := (F_14)
      b_gap_of := (F_14.binds fun _ _ _ _ _ _ us hl => match us, hl with | [_, _], _ => rfl)
      g_gap_of := (PySem.W.mg_of X G a_14)
      F_made_move := (F_15)
      b_made_move := (F_15.binds fun _ _ _ _ _ _ us hl => match us, hl with | [_], _ => rfl)
      g_made_move := (PySem.W.mg_of X G a_15)
      F_link_of_moves := (F_16)
      b_link_of_moves := (F_16.binds fun _ _ _ _ _ _ us hl => match us, hl with | [_, _], _ => rfl)
      g_link_of_moves := (PySem.W.mg_of X G a_16)
      F_root_of_move := (F_17)
      b_root_of_move := (F_17.binds fun _ _ _ _ _ _ us hl => match us, hl with | [_, _], _ => rfl)
      g_root_of_move := (PySem.W.mg_of X G a_17)
      F_is_move_alike := (F_18)
      b_is_move_alike := (F_18.binds fun _ _ _ _ _ _ us hl => match us, hl with | [_, _], _ => rfl)
      g_is_move_alike := (PySem.W.mg_of X G a_18)
      F_move_alike := (F_19)
      b_move_alike := (F_19.binds fun _ _ _ _ _ _ us hl => match us, hl with | [_, _], _ => rfl)
      g_move_alike := (PySem.W.mg_of X G a_19)
      F_do_moves_commute := (F_20)
      b_do_moves_commute := (F_20.binds fun _ _ _ _ _ _ us hl => match us, hl with | [_, _], _ => rfl)
      g_do_moves_commute := (PySem.W.mg_of X G a_20)
      F_move_root := (F_21)
      b_move_root := (F_21.binds fun _ _ _ _ _ _ us hl => match us, hl with | [_, _], _ => rfl)
      g_move_root := (PySem.W.mg_of X G a_21)
      F_l_reel := (F_22)
      b_l_reel := (F_22.binds fun _ _ _ _ _ _ us hl => match us, hl with | [_, _], _ => rfl)
      g_l_reel := (PySem.W.mg_of X G a_22)
      F_l_wind := (F_23)
      b_l_wind := (F_23.binds fun _ _ _ _ _ _ us hl => match us, hl with | [_, _], _ => rfl)
      g_l_wind := (PySem.W.mg_of X G a_23)
      F_l_one_of := (F_24)
      b_l_one_of := (F_24.binds fun _ _ _ _ _ _ us hl => match us, hl with | [_, _], _ => rfl)
      g_l_one_of := (PySem.W.mg_of X G a_24)
      F_l_trip := (F_25)
      b_l_trip := (F_25.binds fun _ _ _ _ _ _ us hl => match us, hl with | [_, _], _ => rfl)
      g_l_trip := (PySem.W.mg_of X G a_25)
      F_l_put := (F_26)
      b_l_put := (F_26.binds fun _ _ _ _ _ _ us hl => match us, hl with | [_, _], _ => rfl)
      g_l_put := (PySem.W.mg_of X G a_26)
      F_l_off := (F_27)
      b_l_off := (F_27.binds fun _ _ _ _ _ _ us hl => match us, hl with | [_], _ => rfl)
      g_l_off := (PySem.W.mg_of X G a_27)
      F_l_power := (F_28)
      b_l_power := (F_28.binds fun _ _ _ _ _ _ us hl => match us, hl with | [_, _], _ => rfl)
      g_l_power := (PySem.W.mg_of X G a_28)
      F_l_move := (F_29)
      b_l_move := (F_29.binds fun _ _ _ _ _ _ us hl => match us, hl with | [_], _ => rfl)
      g_l_move := (PySem.W.mg_of X G a_29)
      F_l_three := (F_30)
      b_l_three := (F_30.binds fun _ _ _ _ _ _ us hl => match us, hl with | [_], _ => rfl)
      g_l_three := (PySem.W.mg_of X G a_30)
      F_l_between := (F_31)
      b_l_between := (F_31.binds fun _ _ _ _ _ _ us hl => match us, hl with | [_, _], _ => rfl)
      g_l_between := (PySem.W.mg_of X G a_31)
      F_l_are_alike := (F_32)
      b_l_are_alike := (F_32.binds fun _ _ _ _ _ _ us hl => match us, hl with | [_, _], _ => rfl)
      g_l_are_alike := (PySem.W.mg_of X G a_32)
      F_l_alike_right := (F_33)
      b_l_alike_right := (F_33.binds fun _ _ _ _ _ _ us hl => match us, hl with | [_, _, _], _ => rfl)
      g_l_alike_right := (PySem.W.mg_of X G a_33)
      F_l_has_root := (F_34)
      b_l_has_root := (F_34.binds fun _ _ _ _ _ _ us hl => match us, hl with | [_, _], _ => rfl)
      g_l_has_root := (PySem.W.mg_of X G a_34)
      F_l_roots_right := (F_35)
      b_l_roots_right := (F_35.binds fun _ _ _ _ _ _ us hl => match us, hl with | [_], _ => rfl)
      g_l_roots_right := (PySem.W.mg_of X G a_35)
      F_l_right := (F_36)
      b_l_right := (F_36.binds fun _ _ _ _ _ _ us hl => match us, hl with | [_], _ => rfl)
      g_l_right := (PySem.W.mg_of X G a_36)
      F_law := (F_37)
      b_law := (F_37.binds fun _ _ _ _ _ _ us hl => match us, hl with | [_], _ => rfl)
      g_law := (PySem.W.mg_of X G a_37)
      k_is_move_alike := (kb_rev F_18 (by decide) fun _ _ _ _ _ _ ws hl => match ws, hl with | [_, _], _ => rfl)
      k_move_alike := (kb_rev F_19 (by decide) fun _ _ _ _ _ _ ws hl => match ws, hl with | [_, _], _ => rfl)
      k_do_moves_commute := (kb_rev F_20 (by decide) fun _ _ _ _ _ _ ws hl => match ws, hl with | [_, _], _ => rfl)
      k_move_root := (kb_rev F_21 (by decide) fun _ _ _ _ _ _ ws hl => match ws, hl with | [_, _], _ => rfl)
      g_Move := (PySem.W.mg_of X G q_Move)
      o_Move := (⟨⟨pg_Move, hd_Move, po_Move, sa_Move⟩, ha_Move, hn_Move, ht_Move, hm_Move⟩)
      m_Move := (⟨mk_Move, in_Move, if_Move, kc_Move⟩)
      n_Move_own_east := (nf_Move_own_east)
      n_Move_own_north := (nf_Move_own_north)
      n_Move_own_area := (nf_Move_own_area)
      p_Move_east := (⟨pa_Move_east, pg_Move_east, pt_Move_east, _, pr_Move_east⟩)
      p_Move_north := (⟨pa_Move_north, pg_Move_north, pt_Move_north, _, pr_Move_north⟩)
      p_Move_area := (⟨pa_Move_area, pg_Move_area, pt_Move_area, _, pr_Move_area⟩)
      s_Move := (st_Move)
      sf_Move := (sf_Move)
      e_Move := (⟨eq_Move, ef_Move, ne_Move, hm_Move⟩)
      z_abs := (PySem.W.mg_none_of X G z_abs)
      z_all := (PySem.W.mg_none_of X G z_all)
      z_bool := (PySem.W.mg_none_of X G z_bool)
      z_divmod := (PySem.W.mg_none_of X G z_divmod)
      z_int := (PySem.W.mg_none_of X G z_int)
      z_isinstance := (PySem.W.mg_none_of X G z_isinstance)
      z_len := (PySem.W.mg_none_of X G z_len)
      z_range := (PySem.W.mg_none_of X G z_range)
      z_repr := (PySem.W.mg_none_of X G z_repr)
      z_str := (PySem.W.mg_none_of X G z_str)
      z_tuple := (PySem.W.mg_none_of X G z_tuple) }
  exact ⟨_, fun s v => .of_eq rfl, fun base _ _ => ok_law T⟩
end K64
open PySem PySem.W PyProof.Rows
set_option maxRecDepth 100000 in
set_option maxHeartbeats 0 in
theorem PySem.Challenge.cw_pressworlds_k64_whole_moves_alike_commut_holds : PySem.Challenge.rw_pressworlds_k64_whole_moves_alike_commut.Holds := by
  w_on; o_law; k_head; (case hw => w_witness2)
  k_fill
  refine Own.walkG (l := PySem.Challenge.rw_pressworlds_k64_whole_moves_alike_commut) (n := 63) (k := 14) (x := "_law_script") (sp := K64.spLaw) rfl (by decide) rfl ⟨rfl, by decide, by decide⟩ (fun w h Y => PySem.W.kIn_of Y) ?F (fun K H a ns hl _ hS => ⟨_, rfl, a, ns, rfl, hS, hl, fun _ => rfl⟩)
  case F =>
    intro w mg fa h KX G hmg
    refine' K64.all_mk KX G hmg ?a_1 ?a_2 ?a_3 ?a_4 ?a_11 ?a_12 ?a_13 ?a_14 ?a_15 ?a_16 ?a_17 ?a_18 ?a_19 ?a_20 ?a_21 ?a_22 ?a_23 ?a_24 ?a_25 ?a_26 ?a_27 ?a_28 ?a_29 ?a_30 ?a_31 ?a_32 ?a_33 ?a_34 ?a_35 ?a_36 ?a_37 ?q_Move ?pa_Move_east ?pg_Move_east ?pt_Move_east ?pr_Move_east ?pa_Move_north ?pg_Move_north ?pt_Move_north ?pr_Move_north ?pa_Move_area ?pg_Move_area ?pt_Move_area ?pr_Move_area ?in_Move ?if_Move ?mk_Move ?kc_Move ?pg_Move ?hd_Move ?po_Move ?sa_Move ?ha_Move ?hn_Move ?ht_Move ?hm_Move ?nf_Move_own_east ?nf_Move_own_north ?nf_Move_own_area ?st_Move ?sf_Move ?eq_Move ?ef_Move ?ne_Move ?l_1 ?c_1 ?k_1 ?l_2 ?c_2 ?k_2 ?l_3 ?c_3 ?k_3 ?l_4 ?c_4 ?k_4 ?l_5 ?c_5 ?k_5 ?l_6 ?c_6 ?k_6 ?l_7 ?c_7 ?k_7 ?l_8 ?c_8 ?k_8 ?l_9 ?c_9 ?k_9 ?l_10 ?c_10 ?k_10 ?l_11 ?c_11 ?k_11 ?l_12 ?c_12 ?k_12 ?l_13 ?c_13 ?k_13 ?l_14 ?c_14 ?k_14 ?l_15 ?c_15 ?k_15 ?l_16 ?c_16 ?k_16 ?l_17 ?c_17 ?k_17 ?l_18 ?c_18 ?k_18 ?l_19 ?c_19 ?k_19 ?l_20 ?c_20 ?k_20 ?l_21 ?c_21 ?k_21 ?l_22 ?c_22 ?k_22 ?l_23 ?c_23 ?k_23 ?l_24 ?c_24 ?k_24 ?l_25 ?c_25 ?k_25 ?l_26 ?c_26 ?k_26 ?l_27 ?c_27 ?k_27 ?l_28 ?c_28 ?k_28 ?l_29 ?c_29 ?k_29 ?l_30 ?c_30 ?k_30 ?l_31 ?c_31 ?k_31 ?l_32 ?c_32 ?k_32 ?l_33 ?c_33 ?k_33 ?l_34 ?c_34 ?k_34 ?l_35 ?c_35 ?k_35 ?l_36 ?c_36 ?k_36 ?l_37 ?c_37 ?k_37 ?z_abs ?z_all ?z_bool ?z_divmod ?z_int ?z_isinstance ?z_len ?z_range ?z_repr ?z_str ?z_tuple
    (case a_1 => k_is)
    (case a_2 => k_is)
    (case a_3 => k_is)
    (case a_4 => k_is)
    (case a_11 => k_is)
    (case a_12 => k_is)
    (case a_13 => k_is)
    (case a_14 => k_is)
    (case a_15 => k_is)
    (case a_16 => k_is)
    (case a_17 => k_is)
    (case a_18 => k_is)
    (case a_19 => k_is)
    (case a_20 => k_is)
    (case a_21 => k_is)
    (case a_22 => k_is)
    (case a_23 => k_is)
    (case a_24 => k_is)
    (case a_25 => k_is)
    (case a_26 => k_is)
    (case a_27 => k_is)
    (case a_28 => k_is)
    (case a_29 => k_is)
    (case a_30 => k_is)
    (case a_31 => k_is)
    (case a_32 => k_is)
    (case a_33 => k_is)
    (case a_34 => k_is)
    (case a_35 => k_is)
    (case a_36 => k_is)
    (case a_37 => k_is)
    (case q_Move => k_is)
    (case pa_Move_east => k_is)
    (case pg_Move_east => k_is)
    (case pt_Move_east => k_is)
    (case pr_Move_east => k_is)
    (case pa_Move_north => k_is)
    (case pg_Move_north => k_is)
    (case pt_Move_north => k_is)
    (case pr_Move_north => k_is)
    (case pa_Move_area => k_is)
    (case pg_Move_area => k_is)
    (case pt_Move_area => k_is)
    (case pr_Move_area => k_is)
    (case in_Move => k_is)
    (case if_Move => k_is)
    (case mk_Move => k_is)
    (case kc_Move => k_is)
    (case pg_Move => k_is)
    (case hd_Move => k_is)
    (case po_Move => k_is)
    (case sa_Move => k_is)
    (case ha_Move => k_is)
    (case hn_Move => k_is)
    (case ht_Move => k_is)
    (case hm_Move => k_is)
    (case nf_Move_own_east => k_is)
    (case nf_Move_own_north => k_is)
    (case nf_Move_own_area => k_is)
    (case st_Move => k_is)
    (case sf_Move => k_is)
    (case eq_Move => k_is)
    (case ef_Move => k_is)
    (case ne_Move => k_is)
    (case l_1 => k_is)
    (case c_1 => k_is)
    (case k_1 => k_is)
    (case l_2 => k_is)
    (case c_2 => k_is)
    (case k_2 => k_is)
    (case l_3 => k_is)
    (case c_3 => k_is)
    (case k_3 => k_is)
    (case l_4 => k_is)
    (case c_4 => k_is)
    (case k_4 => k_is)
    (case l_5 => k_is)
    (case c_5 => k_is)
    (case k_5 => k_is)
    (case l_6 => k_is)
    (case c_6 => k_is)
    (case k_6 => k_is)
    (case l_7 => k_is)
    (case c_7 => k_is)
    (case k_7 => k_is)
    (case l_8 => k_is)
    (case c_8 => k_is)
    (case k_8 => k_is)
    (case l_9 => k_is)
    (case c_9 => k_is)
    (case k_9 => k_is)
    (case l_10 => k_is)
    (case c_10 => k_is)
    (case k_10 => k_is)
    (case l_11 => k_is)
    (case c_11 => k_is)
    (case k_11 => k_is)
    (case l_12 => k_is)
    (case c_12 => k_is)
    (case k_12 => k_is)
    (case l_13 => k_is)
    (case c_13 => k_is)
    (case k_13 => k_is)
    (case l_14 => k_is)
    (case c_14 => k_is)
    (case k_14 => k_is)
    (case l_15 => k_is)
    (case c_15 => k_is)
    (case k_15 => k_is)
    (case l_16 => k_is)
    (case c_16 => k_is)
    (case k_16 => k_is)
    (case l_17 => k_is)
    (case c_17 => k_is)
    (case k_17 => k_is)
    (case l_18 => k_is)
    (case c_18 => k_is)
    (case k_18 => k_is)
    (case l_19 => k_is)
    (case c_19 => k_is)
    (case k_19 => k_is)
    (case l_20 => k_is)
    (case c_20 => k_is)
    (case k_20 => k_is)
    (case l_21 => k_is)
    (case c_21 => k_is)
    (case k_21 => k_is)
    (case l_22 => k_is)
    (case c_22 => k_is)
    (case k_22 => k_is)
    (case l_23 => k_is)
    (case c_23 => k_is)
    (case k_23 => k_is)
    (case l_24 => k_is)
    (case c_24 => k_is)
    (case k_24 => k_is)
    (case l_25 => k_is)
    (case c_25 => k_is)
    (case k_25 => k_is)
    (case l_26 => k_is)
    (case c_26 => k_is)
    (case k_26 => k_is)
    (case l_27 => k_is)
    (case c_27 => k_is)
    (case k_27 => k_is)
    (case l_28 => k_is)
    (case c_28 => k_is)
    (case k_28 => k_is)
    (case l_29 => k_is)
    (case c_29 => k_is)
    (case k_29 => k_is)
    (case l_30 => k_is)
    (case c_30 => k_is)
    (case k_30 => k_is)
    (case l_31 => k_is)
    (case c_31 => k_is)
    (case k_31 => k_is)
    (case l_32 => k_is)
    (case c_32 => k_is)
    (case k_32 => k_is)
    (case l_33 => k_is)
    (case c_33 => k_is)
    (case k_33 => k_is)
    (case l_34 => k_is)
    (case c_34 => k_is)
    (case k_34 => k_is)
    (case l_35 => k_is)
    (case c_35 => k_is)
    (case k_35 => k_is)
    (case l_36 => k_is)
    (case c_36 => k_is)
    (case k_36 => k_is)
    (case l_37 => k_is)
    (case c_37 => k_is)
    (case k_37 => k_is)
    (case z_abs => k_is)
    (case z_all => k_is)
    (case z_bool => k_is)
    (case z_divmod => k_is)
    (case z_int => k_is)
    (case z_isinstance => k_is)
    (case z_len => k_is)
    (case z_range => k_is)
    (case z_repr => k_is)
    (case z_str => k_is)
    (case z_tuple => k_is)

