import PyProof.Rows.All
import Wide.All
import OpenK.AllK
import Wide.FinOn
import HandS.ForMost
import HandS.ForExc
import HandS.WideBits
import HandS.Wide
import HandS.IsInst
import HandS.Property
import HandS.FStr
import HandS.OwnEq
import HandS.MakeKw
import HandS.MakeKwOnly
import HandS.Defaults
import HandS.Flow
import HandS.Codes
import HandS.RaiseMore
import HandS.Deep
import HandS.NoneIn
import HandS.TupAny
import HandS.TupMul
import HandS.Style
import HandS.More
import HandS.StrMore
import HandS.Walk
import PyProof.Rows.StrRev
import PySem.Challenge.RW_pressworlds_k63_whole_moves_done
set_option Elab.async false
set_option linter.all false
set_option maxRecDepth 100000
set_option maxHeartbeats 4000000
/-! Own rules over the hand layer: repr of data, str and == of own instances, calls by keywords alone -/
namespace Own
open PySem PySem.Spec PyProof.Rows L2

/-! ### repr of data at any depth -/
def rRepr (K : PySem.W.Frag) : List V → Hp → VK → Prop := fun xs H Q =>
  ∃ x d, xs = [x] ∧ Dp K H x d ∧ d.showable = true ∧ d.hasDict = false ∧ d.depth ≤ 60 ∧
    d.shown.length ≤ sizeLine ∧ (∃ a, x = .ref a) ∧ Q (.str d.shown) H
theorem call_reprD {X : Cx} (hg : X.A.guards = some []) (hu : X.A.units + 64 < cLine) :
    CallR X (.builtin "repr") (rRepr X.K) := by
  intro pins s σ H xs us Q I r h
  obtain ⟨x, d, rfl, hd, hs, hn, hp, hl, ⟨a, rfl⟩, q⟩ := h
  obtain ⟨u, rfl, r1⟩ := vals1 r
  have e : u = Value.ref a := r1
  subst e
  obtain ⟨as, rd⟩ := Dp.reads I d _ _ hd r1
  exact repr_of_reads' rd hs (PyData.noDict_hsm hn) hg (by omega) (fun _ _ e => e)
    (fun h' u tk hk => ⟨.str _, H, I.kept hk, ⟨_, rfl⟩, q⟩) hl

/-! ### str(o), o an own instance with its own text -/
section
variable {X : Cx} {CX : CXT} {n : Nat} {C g : Addr} {fd : FuncData} {ps : List Str} {sp : Sp} {E : XK}
def rStrOwn (C : Addr) (sp : Sp) (E : XK) : List V → Hp → VK → Prop := fun xs H Q =>
  ∃ a dx fs, xs = [.ref a] ∧ H a = some (.ins C dx fs) ∧ sp [.ref a] H (fun v H' => (∃ z, v = .str z) ∧ Q v H') E
theorem in1_sub {k : Nat} (hr : Room (k + 2) X.A) : Room k X.A.in1.in1 := hr.in1.in1
theorem own_run {A : Around} {pins : List (Addr × Obj)} {σ : L2.St} {H : Hp} {s : Shared} {Q : VK} {us : List Value} {vs : List V}
    (F : FnOk X.prog X.w X.K X.mg X.base CX n g fd ps sp) (hr : Room n A) (hf : A.frames = X.A.frames) (hb : Binds X.K fd ps [])
    (hx : Passes CX X E) (I : Inv X pins σ H s) (r : Vals vs us) (h : sp vs H Q E) :
    wpAny (model X.prog X.w) A (call (.ref g) us) (EP X pins σ Q) X.xe s := by
  have e0 : Env0 X.prog X.w X.K X.mg X.base A X.stack s H := by
    have e := I.env0
    exact ⟨by rw [hf]; exact e.frames, e.mod, e.bs, e.bsz, e.funs, e.frf, e.hok, e.bare⟩
  have hl : us.length = ps.length := by rw [← r.length]; exact F.len _ _ _ _ h
  have hbb := hb s us I.kIn (by simpa using hl)
  rw [List.append_nil] at hbb
  refine wpAny_call (codeAny_mono (F.run A X.stack s H ⟨us, []⟩ us vs Q E hr e0 hbb r h) fun r s' hq => ?_)
  rcases r with e | fl
  · exact hx pins σ H s e s' I hq
  · cases fl <;> first | exact I.after hq | exact False.elim hq
theorem call_strOwn (hs : PySem.W.findIn X.K (.ref C) "__str__" = some (some (.ref g))) (hf : PySem.W.isFn X.K (.ref g) = true)
    (F : FnOk X.prog X.w X.K X.mg X.base CX n g fd ps sp) (hr : Room (n + 2) X.A) (hb : Binds X.K fd ps []) (hx : Passes CX X E) :
    CallR X (.type "str") (rStrOwn C sp E) := by
  intro pins s σ H xs us Q I r h
  obtain ⟨a, dx, fs, rfl, ea, q⟩ := h
  obtain ⟨u, rfl, r1⟩ := vals1 r
  have e : u = Value.ref a := r1
  subst e
  obtain ⟨mA, O, _⟩ := ins_get I.hok ea
  obtain ⟨od, J, _⟩ := O.look
  refine PySem.W.kso_call (f := g) (by have := hr.un; show X.A.units + 1 + 1 < _; omega) I.kIn J hs hf ?_
  refine wpAny_mono (own_run (X := X) F hr.in1.in1 rfl hb hx I r q) (fun v s' hv => ?_) fun _ _ z => z
  obtain ⟨v1, H', I', rv, ⟨z, rfl⟩, q'⟩ := hv
  obtain ⟨t, rfl⟩ := rv
  exact ⟨.str z, H', I', ⟨t, rfl⟩, q'⟩
end

/-! ### f(k = v, ..): keywords alone -/
section
variable {X : Cx} {CX : CXT} {k : Nat} {f : Addr} {fd : FuncData} {ps ks : List Str} {sp : Sp} {E : XK} {x : Str} {p pos : Pos} {kws : List Keyword}
  {tk : TA} {g : List Value → List Value → List Value} {gV : List V → List V → List V}
theorem pe_callK0 (F : FnOk X.prog X.w X.K X.mg X.base CX k f fd ps sp) (hr : Room k X.A) (hg : Gl X x) (hm : X.mg x = some (.ref f))
    (hk : PySem.W.keepIn X.K (.ref f) = true) (hb : KBinds X.K fd ps ks g gV) (hx : Passes CX X E) (hkw : PK X kws tk)
    (hall : (backToKw pos (keywordEach kws X.env)).all (·.1.isSome) = true := by rfl)
    (hks : (backToKw pos (keywordEach kws X.env)).filterMap (·.1) = ks := by rfl)
    (hdb : (x == ("__debug__" : Str)) = false := by decide)
    (hpl : ((backTo pos (starEach [] X.env)).any (·.1) || (backToKw pos (keywordEach kws X.env)).any (·.1.isNone)) = false := by rfl) :
    PE X (.Call (.Name x p) [] kws pos) (tCallK sp gV E tNil tk) := by
  refine ⟨fun pins s σ H Q I h => ?_⟩
  refine wpAny_Call_Name_kw (ld_glob I hg hm ?_ hdb)
  refine PySem.W.callWith_KW0 (h₀ := X.base) I.ok.mod.kin hk hall ?_ hpl
  refine thn (hkw.run pos pins s σ H _ I h) fun ws s2 ⟨zs, H2, I2, rz, q2⟩ => ⟨I2.kIn, ?_⟩
  rw [hks]
  exact run_fnk (us := []) F hr hb hx I2 .nil rz q2
end

/-! ### == and != of an own instance, by the own == -/
section
variable {X : Cx} {CX : CXT} {n : Nat} {C g : Addr} {fd : FuncData} {ps : List Str} {sp : Sp} {E : XK}
/-- what is to be known of the right one: its class does not come first -/
def Rgt (K : PySem.W.Frag) (H : Hp) (C : Addr) (y : V) : Prop := ∃ t, TyX K H y t ∧ PySem.W.notFirst K C t = true
def rEqOwn (K : PySem.W.Frag) (C : Addr) (sp : Sp) (E : XK) : R2 := fun x y H Q =>
  ∃ a dx fs, x = .ref a ∧ H a = some (.ins C dx fs) ∧ Rgt K H C y ∧ sp [.ref a, y] H (fun v H' => ∃ b, v = .bl b ∧ Q (.bl b) H') E
def rNeOwn (K : PySem.W.Frag) (C : Addr) (sp : Sp) (E : XK) : R2 := fun x y H Q =>
  ∃ a dx fs, x = .ref a ∧ H a = some (.ins C dx fs) ∧ Rgt K H C y ∧ sp [.ref a, y] H (fun v H' => ∃ b, v = .bl b ∧ Q (.bl (!b)) H') E
/-- what the written part says of the class: its own ==, and that != is the plain one -/
structure EqC (K : PySem.W.Frag) (C g : Addr) : Prop where
  eq : PySem.W.findIn K (.ref C) "__eq__" = some (some (.ref g))
  fn : PySem.W.isFn K (.ref g) = true
  ne : PySem.W.findIn K (.ref C) "__ne__" = some (some (.builtin "object.__ne__"))
  ob : PySem.W.mroIn K C (.type "object") = some true
theorem op_eqOwn (c : EqC X.K C g) (F : FnOk X.prog X.w X.K X.mg X.base CX n g fd ps sp) (hr : Room n X.A) (hb : Binds X.K fd ps []) (hx : Passes CX X E) :
    OpR X (compareOp .Eq) (rEqOwn X.K C sp E) := by
  intro pins s σ H x y v u Q I rx ry h
  obtain ⟨a, dx, fs, rfl, ea, ⟨t, ty, nf⟩, q⟩ := h
  have e : v = Value.ref a := rx
  subst e
  obtain ⟨mA, O, _⟩ := ins_get I.hok ea
  obtain ⟨od, J, _⟩ := O.look
  obtain ⟨m, hF⟩ := I.fr
  obtain ⟨P, Z, p, _⟩ := kit_of I ry ty
  refine PySem.W.cmp_K (op := .Eq) (tb := t) hr.units0 hF I.ok.mod.kin J (Z.ty _ _ I.kIn p) nf c.eq c.fn ?_
  refine wpAny_mono (own_run (X := X) F hr rfl hb hx I (.cons rx (.cons ry .nil)) q) (fun v s' hv => ?_) fun _ _ z => z
  obtain ⟨v1, H', I', rv, b, rfl, q'⟩ := hv
  have e : v = Value.bool b := rv
  subst e
  exact ⟨.bl b, H', I', rfl, q'⟩
/-- a special name that is a built-in slot -/
theorem ifBound_slot {M : Model} {A : Around} {E : Value → Shared → Prop} {s : Shared} {K : PySem.W.Frag} {x C : Addr} {ox : Obj} {od : Option Obj} {name : Str} {id : String} {args : List Value} {Q : Option Value → Shared → Prop}
    (X : K.In s.heap) (I : PySem.W.InstAt s.heap x ox C od) (hs : PySem.W.findIn K (.ref C) name = some (some (.builtin id)))
    (hb : ∀ self, bindSpecial (.builtin id) self = pure (.builtin id, [self]))
    (h : wpAny M A (call (.builtin id) (.ref x :: args)) (fun v => Q (some v)) E s) : wpAny M A (callSpecialIfBound? (.ref x) name args) Q E s := by
  simp only [callSpecialIfBound?, bindSpecialIfBound?]
  refine wpAny_holding (wpAny_bind (wpAny_bind (wpAny_bind (I.type.here ((PySem.W.looks_findIn X hs).here ?_)))))
  simp only [hb]
  refine wpAny_bind (wpAny_askSetting (wpAny_ite ?_))
  have fin : wpAny M A (call (.builtin id) ([.ref x] ++ args) >>= fun v => pure (some v)) Q E s :=
    wpAny_bind (wpAny_mono h (fun v s' h' => wpAny_pure h') fun _ _ h' => h')
  split
  · exact wpAny_bind (wpAny_pure (wpAny_pure fin))
  · exact wpAny_tryCatch (wpAny_bind (wpAny_pure (wpAny_pure fin)))
theorem bind_objNe (self : Value) : bindSpecial (.builtin "object.__ne__") self = pure (.builtin "object.__ne__", [self]) := PySem.F.slot_object_ne.bind self
theorem op_neOwn (c : EqC X.K C g) (F : FnOk X.prog X.w X.K X.mg X.base CX n g fd ps sp) (hr : Room (n + 1) X.A) (hb : Binds X.K fd ps []) (hx : Passes CX X E) :
    OpR X (compareOp .NotEq) (rNeOwn X.K C sp E) := by
  intro pins s σ H x y v u Q I rx ry h
  obtain ⟨a, dx, fs, rfl, ea, ⟨t, ty, nf⟩, q⟩ := h
  have e : v = Value.ref a := rx
  subst e
  obtain ⟨mA, O, _⟩ := ins_get I.hok ea
  obtain ⟨od, J, _⟩ := O.look
  obtain ⟨P, Z, p, _⟩ := kit_of I ry ty
  have KX := I.kIn
  have one : wpAny (model X.prog X.w) X.A (tryCompare (.ref a) (cmpInfo .NotEq).2.1 u) (fun r s' => ∃ v, r = some v ∧ EP X pins σ Q v s') X.xe s := by
    unfold tryCompare
    refine wpAny_bind (ifBound_slot KX J c.ne bind_objNe ?_)
    refine wpAny_call (codeAny_call_builtin PySem.F.slot_object_ne.plain PySem.F.cmpEntry_ne (PySem.W.check_slot (i := "object.__ne__") (owner := "object") (n := "__ne__") (by decide +kernel) (by decide +kernel) (J.type.andThen (PySem.W.looks_mroIn KX c.ob)) (PySem.F.cmpArgs_ne _ _) ?_))
    unfold Builtin.«object.__ne__»
    refine wpAny_bind (m := slotArgs "__ne__" 1 _) (wpAny_pure ?_)
    refine wpAny_bind (m := cRoomFor _ _) (wpAny_cRoomFor (by have := hr.un; show X.A.units + 1 < _; omega) ?_)
    refine wpAny_bind (m := callSpecialIfBound? (.ref a) (Str.ofString "__eq__") _) (PySem.W.ifBound_K KX J c.eq c.fn ?_)
    refine wpAny_mono (own_run (X := X) (A := X.A.in1) F hr.in1 rfl hb hx I (.cons rx (.cons ry .nil)) q) (fun v s' hv => ?_) fun _ _ z => z
    obtain ⟨v1, H', I', rv, b, rfl, q'⟩ := hv
    have e : v = Value.bool b := rv
    subst e
    refine wpAny_bind (m := truthy (.bool b)) (wpAny_truthy_bool ?_)
    refine wpAny_pure ?_
    exact wpAny_pure ⟨_, rfl, .bl (!b), H', I', rfl, q'⟩
  show wpAny _ _ (richCompare .NotEq (.ref a) u) _ _ _
  unfold richCompare
  simp only [oneThing_ref]
  refine wpAny_holding (wpAny_bind (wpAny_cRoomFor hr.units0 ?_))
  refine wpAny_bind (J.type.here (wpAny_bind ((Z.ty _ _ I.kIn p).here ?_)))
  split
  · rename_i q0
    have e : PySem.W.subIn X.K t (.ref C) = some false := by
      rcases Bool.or_eq_true_iff.mp nf with e | e
      · rw [beq_iff_eq.mp e] at q0; simp at q0
      · exact beq_iff_eq.mp e
    refine wpAny_bind ((PySem.W.looks_subIn KX e).here ?_)
    simp only [Bool.false_eq_true, if_false]
    refine wpAny_bind (wpAny_mono one (fun r s' z => ?_) fun _ _ e => e)
    obtain ⟨v, rfl, hq⟩ := z
    exact wpAny_pure hq
  · refine wpAny_bind (wpAny_pure ?_)
    simp only [Bool.false_eq_true, if_false]
    refine wpAny_bind (wpAny_mono one (fun r s' z => ?_) fun _ _ e => e)
    obtain ⟨v, rfl, hq⟩ := z
    exact wpAny_pure hq
end
end Own

/-! Defs that may call repr: promises that hold where no repr is under way -/
namespace Own
open PySem PySem.Spec PyProof.Rows L2

structure FnG (P : Program) (w : World) (K : PySem.W.Frag) (mg : Str → Option Value) (base : Heap) (k : Nat) (f : Addr) (fd : FuncData) (ps : List Str) (sp : Sp) : Prop where
  len : ∀ vs H Q E, sp vs H Q E → vs.length = ps.length
  go : ∀ (A : Around) (outer : List Env) (s : Shared) (H : Hp) (args : Args) (us : List Value) (vs : List V) (Q : VK) (E : XK),
    A.guards = some [] → Room k A → Env0 P w K mg base A outer s H → BindsTo s fd args (ps.zip us) → Vals vs us → sp vs H Q E →
    codeAny (model P w) A (.call (.ref f) args) (CR CX0 outer P w H s Q E) s
theorem FnG.of {P : Program} {w : World} {K : PySem.W.Frag} {mg : Str → Option Value} {base : Heap} {k : Nat} {f : Addr} {fd : FuncData} {ps : List Str} {sp : Sp}
    (F : FnOk P w K mg base CX0 k f fd ps sp) : FnG P w K mg base k f fd ps sp :=
  ⟨F.len, fun A outer s H args us vs Q E _ => F.run A outer s H args us vs Q E⟩

section
variable {P : Program} {w : World} {K : PySem.W.Frag} {mg : Str → Option Value} {base : Heap} {x qual : Str} {st : Stmt} {f : Addr} {fd : FuncData} {N ps : List Str} {k : Nat} {sp : Sp}
theorem okG (F : Fun K x qual st f fd) (S : FnScope N ps (defScope st)) (len : ∀ vs H Q E, sp vs H Q E → vs.length = ps.length)
    (hbody : ∀ (cdv : Value) (A : Around) (outer : List Env) (s : Shared) (H : Hp) (vs : List V) (Q : VK) (E : XK),
      A.guards = some [] → Room k (A.deeper (envOfC qual (defScope st) s.heap.objs.size f cdv)) → sp vs H Q E →
      ∃ t, PSs (cxOf CX0 P w K mg base N qual (defScope st) f cdv A outer s H E).nox (defBody st) t ∧
        t { nx := fun _ H' => Q .non H', rt := Q } (start N vs) H) : FnG P w K mg base (k + 1) f fd ps sp := by
  obtain ⟨oc, od, kV, doc, pm, an, cdv, ct, osl, rfl, lk, hcd⟩ := F.ex
  constructor
  · exact len
  intro A outer s H args us vs Q E hg hr e0 hb r hsp
  have keep : ∀ b o, base.get? b = some o → s.heap.get? b = some o := fun b o e => (e0.bs b o e).1
  have hin : K.In s.heap := e0.mod.kin.keeps keep
  have hkind : ∀ y ∈ ps.zip us, (defScope st).names.lookup y.1 = some .local ∨
      ((defScope st).names.lookup y.1 = some .cell ∧ ((cellsFrom (s.heap.objs.size + 1) (defScope st).names []).lookup y.1).isSome = true) := by
    rintro ⟨n, v⟩ hy
    exact (S.par n (List.of_mem_zip hy).1).imp id fun q => ⟨q, PySem.W.cellsFrom_some _ _ _ (.inl q)⟩
  refine codeAny_call_function hr.depth (hin _ _ lk) rfl S.co S.gen rfl (PySem.W.codeRec_of hin hcd) (hb _ _ _ _ ?_)
  refine wpAny_newFunctionEnv_cells S.kind hkind fun env he s1 z => ?_
  subst he
  refine ⟨(e0.mod.nolimit.keeps keep).keeps z.toInCall.keep, codeAny_func ?_⟩
  obtain ⟨t, ht, hq⟩ := hbody cdv A outer s H vs Q E hg (hr.deeper _) hsp
  have J := inv_start (CX := CX0) (E := E) S hr.hd e0 (len _ _ _ _ hsp) r z
  refine wpAny_mono (ht.nox.run [] s1 (start N vs) H _ J hq) (fun fl s' hs => ?_) fun e s' hs => hs
  cases fl with
  | ret u =>
    obtain ⟨v, σ', H', J', rv, q⟩ := hs
    exact ⟨v, H', J'.os, J'.bare, J'.base, J'.hok, rv, q⟩
  | next =>
    obtain ⟨σ', H', J', q⟩ := hs
    exact ⟨.non, H', J'.os, J'.bare, J'.base, J'.hok, rfl, q⟩
  | brk => exact (hs.choose_spec.choose_spec.2 : False).elim
  | cont => exact (hs.choose_spec.choose_spec.2 : False).elim
end

section
variable {X : Cx} {k : Nat} {f : Addr} {fd : FuncData} {ps : List Str} {sp : Sp} {x : Str} {p pos : Pos} {e : Expr} {es : List Expr} {t : TA}
theorem goG {pins : List (Addr × Obj)} {σ : L2.St} {H : Hp} {s : Shared} {Q : VK} {us : List Value} {vs : List V}
    (F : FnG X.prog X.w X.K X.mg X.base k f fd ps sp) (hg : X.A.guards = some []) (hr : Room k X.A) (hb : Binds X.K fd ps [])
    (I : Inv X pins σ H s) (r : Vals vs us) (h : sp vs H Q E0) : wpAny (model X.prog X.w) X.A (call (.ref f) us) (EP X pins σ Q) X.xe s := by
  have hl : us.length = ps.length := by rw [← r.length]; exact F.len _ _ _ _ h
  have bb := hb s us I.kIn (by simpa using hl)
  rw [List.append_nil] at bb
  refine wpAny_call (codeAny_mono (F.go X.A X.stack s H ⟨us, []⟩ us vs Q E0 hg hr I.env0 bb r h) fun r s' hq => ?_)
  rcases r with e | fl
  · exact (hq : False).elim
  · cases fl <;> first | exact I.after hq | exact (hq : False).elim
def tCallG (sp : Sp) (t : TA) : TE := fun σ H Q => t σ H fun vs H1 => sp vs H1 Q E0
theorem pe_callG (F : FnG X.prog X.w X.K X.mg X.base k f fd ps sp) (hgd : X.A.guards = some []) (hr : Room k X.A) (hg : Gl X x) (hm : X.mg x = some (.ref f))
    (hk : PySem.W.keepIn X.K (.ref f) = true) (hb : Binds X.K fd ps []) (ha : PA X (e :: es) t)
    (hdb : (x == ("__debug__" : Str)) = false := by decide) (he : starEach (e :: es) X.env = (false, eval e X.env) :: starEach es X.env := by rfl)
    (hpl : (backTo pos (starEach es X.env)).any (·.1) = false := by rfl) :
    PE X (.Call (.Name x p) (e :: es) [] pos) (tCallG sp t) := by
  constructor
  intro pins s σ H Q I h
  refine wpAny_Call_Name_kw (ld_glob I hg hm ?_ hdb)
  exact PySem.W.callWith_K (h₀ := X.base) I.ok.mod.kin hk (thn (ha.run pos pins s σ H _ I h) fun us s1 ⟨vs, H1, I1, r, q⟩ => ⟨I1.kIn, goG F hgd hr hb I1 r q⟩) he hpl
end

/-! ### the law's own call, where no repr is under way -/
theorem nothing_in {b : Addr} : ¬ b ∈ ([] : List Addr) := by simp
theorem lawG0 {P : Program} {w : World} {K : PySem.W.Frag} {mg mb : Str → Option Value} {k : Nat} {fa a : Addr} {fd : FuncData} {x : Str} {sp : Sp} {s₁ : Shared} {vs : List Value} {ns : List Int} {H : Hp}
    (KX : K.In s₁.heap) (hns : s₁.heap.Ns mainGlobals mg) (hb : s₁.heap.Ns builtinsNs mb) (hbb : ∀ x : Str, x ≠ "__name__" → mb x = bootBuiltins x)
    (hlim : s₁.heap.NoLimit) (hg : s₁.gens = #[]) (ha : s₁.heap.get? a = some { cls := .type "list", data := .seq vs.toArray }) (hr : Room k callerA)
    (F : ∀ base : Heap, K.In base → base.Ns mainGlobals mg → FnG P w K mg base k fa fd [x] sp) (hbind : ∀ (s : Shared) (u : Value), BindsTo s fd ⟨[u], []⟩ [(x, u)])
    (hO : Only H) (hok : HOk P w H s₁.heap) (hA : ∀ b, H b ≠ none → b = a) (hK : H a ≠ none → K.lookup a = none)
    (hsp : sp [.ref a] H (fun v _ => v = .bl true) E0) :
    codeAny (model P w) callerA (.call (.ref fa) ⟨[.ref a], []⟩)
      (fun r s' => r = .ok (.ret (.bool true)) ∧ OldK s₁.heap s'.heap ∧ s'.os = s₁.os ∧ AllBare s'.gens) s₁ := by
  have out : ∀ {b : Addr}, b ≠ a → H b = none := fun {b} h => by
    cases q : H b with
    | none => rfl
    | some u => exact absurd (hA b (by rw [q]; simp)) h
  have nsK : ∀ {b : Addr} {m : Str → Option Value}, s₁.heap.Ns b m → (hidT s₁.heap H).Ns b m := by
    rintro b m ⟨o, es, ep, e, d, r⟩
    refine ⟨o, es, ep, hidT_get e (out ?_), d, r⟩
    rintro rfl
    rw [ha] at e
    cases e
    cases d
  have hKb : K.In (hidT s₁.heap H) := by
    intro b o e
    refine hidT_get (KX b o e) ?_
    cases q : H b with
    | none => rfl
    | some u =>
      have z := hA b (by rw [q]; simp)
      subst z
      rw [hK (by rw [q]; simp)] at e
      cases e
  obtain ⟨mc, l1, l2⟩ := hlim
  have e0 : Env0 P w K mg (hidT s₁.heap H) callerA [] s₁ H :=
    ⟨rfl, ⟨hKb, nsK hns, ⟨mb, nsK hb, hbb⟩, ⟨mc, nsK l1, l2⟩⟩, fun b o e => of_hidT e, Nat.le_of_eq (hidT_size _ _), trivial, fun b z => (nothing_in z).elim, hok, .of_eq hg⟩
  have run := (F _ hKb (nsK hns)).go callerA [] s₁ H ⟨[.ref a], []⟩ [.ref a] [.ref a] _ _ rfl hr e0 (hbind s₁ (.ref a)) (.cons rfl .nil) hsp
  refine codeAny_mono run fun r s' h => ?_
  rcases r with e | fl
  · exact (h : False).elim
  cases fl with
  | next => exact (h : False).elim
  | brk => exact (h : False).elim
  | cont => exact (h : False).elim
  | ret u =>
    obtain ⟨v, H', os, bare, un, hok', r', q⟩ := h
    have q' : v = .bl true := q
    subst q'
    have e : u = Value.bool true := r'
    subst e
    refine ⟨rfl, OldK.of_keep ?_, os, bare⟩
    intro b o e
    rcases hO b with z | ⟨ob, xs, z⟩
    · exact un.keep b o e z (fun y => nothing_in y) nothing_in
    · have e2 := (hok' b _ (un.frzs b ob _ z)).1
      have e1 := (hok b _ z).1
      rw [e] at e1
      cases e1
      exact e2
theorem lawG {P : Program} {w : World} {K : PySem.W.Frag} {mg mb : Str → Option Value} {k : Nat} {fa a : Addr} {fd : FuncData} {x : Str} {sp : Sp} {s₁ : Shared} {vs : List Value} {ns : List Int}
    (KX : K.In s₁.heap) (hns : s₁.heap.Ns mainGlobals mg) (hb : s₁.heap.Ns builtinsNs mb) (hbb : ∀ x : Str, x ≠ "__name__" → mb x = bootBuiltins x)
    (hlim : s₁.heap.NoLimit) (hg : s₁.gens = #[]) (ha : s₁.heap.get? a = some { cls := .type "list", data := .seq vs.toArray }) (hi : IntsAre vs ns)
    (hl : ns.length ≤ sizeLine) (hr : Room k callerA)
    (F : ∀ base : Heap, K.In base → base.Ns mainGlobals mg → FnG P w K mg base k fa fd [x] sp) (hbind : ∀ (s : Shared) (u : Value), BindsTo s fd ⟨[u], []⟩ [(x, u)])
    (hsp : ∀ H : Hp, Only H → SqL K H a (ns.map V.int) → sp [.ref a] H (fun v _ => v = .bl true) E0) :
    codeAny (model P w) callerA (.call (.ref fa) ⟨[.ref a], []⟩)
      (fun r s' => r = .ok (.ret (.bool true)) ∧ OldK s₁.heap s'.heap ∧ s'.os = s₁.os ∧ AllBare s'.gens) s₁ := by
  have rv := vals_ints hi
  cases hk : K.lookup a with
  | some o =>
    have e := KX a o hk
    rw [ha] at e
    cases e
    have only : Only (fun _ => none) := fun _ => .inl rfl
    refine lawG0 (H := fun _ => none) (ns := ns) KX hns hb hbb hlim hg ha hr F hbind only (fun b u z => nomatch (z : (none : Option HO) = some u)) (fun b z => absurd rfl z) (fun z => absurd rfl z) (hsp _ only ?_)
    exact .inr ⟨_, vs.toArray, _, hk, rfl, rfl, rfl, by rw [List.size_toArray, hi.length]; exact hl, by simpa using rv⟩
  | none =>
    let H1 : Hp := fun b => if b = a then some (.frz { cls := .type "list", data := .seq vs.toArray } (.lst (ns.map V.int))) else none
    have at1 : H1 a = some (.frz { cls := .type "list", data := .seq vs.toArray } (.lst (ns.map V.int))) := if_pos rfl
    have off : ∀ b, b ≠ a → H1 b = none := fun b h => if_neg h
    have only : Only H1 := by
      intro b
      by_cases h : b = a
      · subst h; exact .inr ⟨_, _, at1⟩
      · exact .inl (off b h)
    refine lawG0 (H := H1) (ns := ns) KX hns hb hbb hlim hg ha hr F hbind only ?_ (fun b z => ?_) (fun _ => hk) (hsp H1 only (.inl (.inr ⟨_, at1⟩)))
    · intro b u z
      by_cases h : b = a
      · subst h
        rw [at1] at z
        cases z
        exact ⟨ha, by rw [List.length_map]; exact hl, vs, _, rv, ha⟩
      · rw [off b h] at z
        cases z
    · by_cases h : b = a
      · exact h
      · exact absurd (off b h) z
theorem walkG {l : PySem.W.OpenLaw} {n k : Nat} {q : Program} {loose : List Str} {XP : (Str → Option Value) → Heap → Prop} {YP : World → Heap → Prop} {d : DefRec} {K : Params → PySem.W.Frag} {sp : PySem.W.Frag → Sp} {x : Str}
    (hn : l.most = some n) (hn2 : n ≤ sizeLine) (hdf : d.params.defaults = []) (hr : Room k callerA)
    (hY : ∀ (w : World) (h : Heap), YP w h → (K w.params).In h)
    (F : ∀ (w : World) (mg : Str → Option Value) (fa : Addr) (h : Heap), (K w.params).In h → h.Ns mainGlobals mg → mg d.name = some (.ref fa) →
      ∃ fd : FuncData, (∀ (s : Shared) (u : Value), BindsTo s fd ⟨[u], []⟩ [(x, u)]) ∧
        ∀ base : Heap, (K w.params).In base → base.Ns mainGlobals mg → FnG l.prog w (K w.params) mg base k fa fd [x] (sp (K w.params)))
    (hsp : ∀ (K : PySem.W.Frag) (H : Hp) (a : Addr) (ns : List Int), ns.length ≤ n → Only H → SqL K H a (ns.map V.int) → sp K [.ref a] H (fun v _ => v = .bl true) E0) :
    PySem.W.WalkO q loose XP YP l.row.toRowW d [] (fun f vs => PySem.call f vs) := by
  refine Att.attach_call hn hdf fun w s₀ s₁ mg mb fa o pm cd doc a vs ns G Y ho hd hcd hmg hobj hints hlen hg => ?_
  obtain ⟨fd, hb, hF⟩ := F w mg fa _ (hY w _ Y) G.T.g hmg
  exact lawG (hY w _ Y) G.T.g G.T.b G.T.builtins G.T.nolimit hg hobj hints (Nat.le_trans hlen hn2) hr hF hb fun H hO hS => hsp _ H a ns hlen hO hS
end Own

/-! What stands still while the heap grows: M is the part that is told of, H the whole -/
namespace Own
open PySem PySem.Spec PyProof.Rows L2

structure Gr (M H M' H' : Hp) : Prop where
  ex : Same M M'
  inn : Same M' H'
  out : ∀ b o, M b = none → H b = some o → M' b = none ∧ H' b = some o
section
variable {M H M1 H1 M2 H2 : Hp} {p x dx : Addr} {o : HO} {K : PySem.W.Frag}
theorem Gr.refl (h : Same M H) : Gr M H M H := ⟨Same.refl M, h, fun _ _ a b => ⟨a, b⟩⟩
theorem Gr.trans (g1 : Gr M H M1 H1) (g2 : Gr M1 H1 M2 H2) : Gr M H M2 H2 :=
  ⟨g1.ex.trans g2.ex, g2.inn, fun b o a c => let z := g1.out b o a c; g2.out b o z.1 z.2⟩
theorem same_new (h : H p = none) : Same H (upd H p o) := fun b u e => by
  rw [upd_ne (ne_of_none e h)]
  exact e
theorem Same.off (h : Same M H) (hp : H p = none) : M p = none := h.free hp
theorem gr_new (h : Same M H) (hp : H p = none) : Gr M H (upd M p o) (upd H p o) := by
  refine ⟨same_new (h.free hp), ?_, ?_⟩
  · intro b u e
    by_cases hb : b = p
    · subst hb
      rw [upd_same] at e ⊢
      exact e
    · rw [upd_ne hb] at e ⊢
      exact h b u e
  · intro b u e1 e2
    have hb : b ≠ p := ne_of_none e2 hp
    rw [upd_ne hb, upd_ne hb]
    exact ⟨e1, e2⟩
theorem gr_ins {C : Addr} {fs : List (Str × V)} (h : Same M H) (hx : H x = none) (hd : H dx = none) (ne : dx ≠ x) :
    Gr M H (upd (upd M dx (.own x)) x (.ins C dx fs)) (upd (upd H dx (.own x)) x (.ins C dx fs)) := by
  have g1 : Gr M H (upd M dx (.own x)) (upd H dx (.own x)) := gr_new h hd
  exact g1.trans (gr_new g1.inn (by rw [upd_ne ne.symm]; exact hx))
theorem Gr.same (h : Same M H) (g : Gr M H M1 H1) : Same H H1 := fun b o e => by
  cases q : M b with
  | none => exact (g.out b o q e).2
  | some u =>
    have z := h b u q
    rw [e] at z
    cases z
    exact g.inn b o (g.ex b o q)
theorem Gr.one {n : Nat} {v : Addr} (g : Gr M H M1 H1) (hv : M v = none) (ho : H v = some o) : H1 v = some o ∧ M1 v = none :=
  let z := g.out v o hv ho
  ⟨z.2, z.1⟩
theorem same_t {a : Addr} {xs : List V} (e : Same M M1) (h : SqT K M a xs) : SqT K M1 a xs := by
  rcases h with (h | ⟨o, h⟩) | h
  · exact .inl (.inl (e _ _ h))
  · exact .inl (.inr ⟨o, e _ _ h⟩)
  · exact .inr h
end
mutual
theorem dp_mono {K : PySem.W.Frag} {M M1 : Hp} (e : Same M M1) : ∀ {v : V} {d : PyData}, Dp K M v d → Dp K M1 v d
  | _, _, .non => .non
  | _, _, .bl b => .bl b
  | _, _, .int i => .int i
  | _, _, .str x => .str x
  | _, _, .lst h a => .lst (e.seq h) (dps_mono e a)
  | _, _, .tup h a => .tup (same_t e h) (dps_mono e a)
theorem dps_mono {K : PySem.W.Frag} {M M1 : Hp} (e : Same M M1) : ∀ {vs : List V} {ds : List PyData}, DpAll K M vs ds → DpAll K M1 vs ds
  | _, _, .nil => .nil
  | _, _, .cons h a => .cons (dp_mono e h) (dps_mono e a)
end
/-! ### promises by the number of arguments -/
def sp0 (f : Hp → VK → Prop) : Sp := fun vs H Q _ => vs = [] ∧ f H Q
def sp1 (f : V → Hp → VK → Prop) : Sp := fun vs H Q _ => ∃ x, vs = [x] ∧ f x H Q
def sp2 (f : V → V → Hp → VK → Prop) : Sp := fun vs H Q _ => ∃ x y, vs = [x, y] ∧ f x y H Q
def sp3 (f : V → V → V → Hp → VK → Prop) : Sp := fun vs H Q _ => ∃ x y z, vs = [x, y, z] ∧ f x y z H Q
theorem len0 {f : Hp → VK → Prop} {ps : List Str} (hp : ps.length = 0) : ∀ vs H Q E, sp0 f vs H Q E → vs.length = ps.length := fun _ _ _ _ h => by
  obtain ⟨rfl, _⟩ := h
  exact hp.symm
theorem len1 {f : V → Hp → VK → Prop} {ps : List Str} (hp : ps.length = 1) : ∀ vs H Q E, sp1 f vs H Q E → vs.length = ps.length := fun _ _ _ _ h => by
  obtain ⟨x, rfl, _⟩ := h
  exact hp.symm
theorem len2 {f : V → V → Hp → VK → Prop} {ps : List Str} (hp : ps.length = 2) : ∀ vs H Q E, sp2 f vs H Q E → vs.length = ps.length := fun _ _ _ _ h => by
  obtain ⟨x, y, rfl, _⟩ := h
  exact hp.symm
theorem len3 {f : V → V → V → Hp → VK → Prop} {ps : List Str} (hp : ps.length = 3) : ∀ vs H Q E, sp3 f vs H Q E → vs.length = ps.length := fun _ _ _ _ h => by
  obtain ⟨x, y, z, rfl, _⟩ := h
  exact hp.symm
/-! ### the drawer: a list of three ints that is written, beside what stands still -/
structure Vl (v : Addr) (n : Nat) (M H : Hp) : Prop where
  inn : Same M H
  off : M v = none
  at_ : ∃ a b c : Int, H v = some (.lst [.int a, .int b, .int c]) ∧ 0 ≤ a ∧ 0 ≤ c ∧ c ≤ n
section
variable {v : Addr} {n m : Nat} {M H M1 H1 : Hp}
theorem Vl.grow (w : Vl v n M H) (g : Gr M H M1 H1) : Vl v n M1 H1 := by
  obtain ⟨a, b, c, h, r⟩ := w.at_
  have z := g.out v _ w.off h
  exact ⟨g.inn, z.1, a, b, c, z.2, r⟩
theorem Vl.mono (w : Vl v n M H) (h : n ≤ m) : Vl v m M H := by
  obtain ⟨a, b, c, e, h0, h1, h2⟩ := w.at_
  exact ⟨w.inn, w.off, a, b, c, e, h0, h1, by omega⟩
end
/-! ### keyword calls in the opposite order, and in the order -/
def gRev {α : Type} (us ws : List α) : List α := match us with
  | [] => ws.reverse
  | _ => []
def gFwd {α : Type} (us ws : List α) : List α := match us with
  | [] => ws
  | _ => []
theorem vals_rev : ∀ {zs : List V} {ws : List Value}, Vals zs ws → Vals zs.reverse ws.reverse
  | _, _, .nil => .nil
  | _, _, .cons h t => by
    rw [List.reverse_cons, List.reverse_cons]
    exact (vals_rev t).append (.cons h .nil)
theorem kb_rev {K : PySem.W.Frag} {x qual : Str} {st : Stmt} {f : Addr} {fd : FuncData} {ps ks : List Str} (F : Fun K x qual st f fd) (h0 : ps ≠ [])
    (h : ∀ (kV doc pm : Value) (an : Option Addr) (cdv ct : Value) (ws : List Value), ws.length = ps.length →
      bindArgs (PySem.W.fnOf x qual (defArgs st) (defBody st) (defScope st) .none kV doc pm an cdv ct) ⟨[], ks.zip ws⟩ = pure (ps.zip ws.reverse)) :
    KBinds K fd ps ks gRev gRev := by
  obtain ⟨oc, od, kV, doc, pm, an, cdv, ct, osl, rfl, lk, hcd⟩ := F.ex
  constructor
  · intro s us ws _ hl
    cases us with
    | nil => exact .of_eq (h kV doc pm an cdv ct ws (by simpa [gRev] using hl))
    | cons u us => exact absurd (List.length_eq_zero_iff.mp hl.symm) h0
  · intro vs us zs ws r rz
    cases r with
    | nil => exact vals_rev rz
    | cons _ _ => exact .nil
theorem kb_fwd {K : PySem.W.Frag} {x qual : Str} {st : Stmt} {f : Addr} {fd : FuncData} {ps ks : List Str} (F : Fun K x qual st f fd) (h0 : ps ≠ [])
    (h : ∀ (kV doc pm : Value) (an : Option Addr) (cdv ct : Value) (ws : List Value), ws.length = ps.length →
      bindArgs (PySem.W.fnOf x qual (defArgs st) (defBody st) (defScope st) .none kV doc pm an cdv ct) ⟨[], ks.zip ws⟩ = pure (ps.zip ws)) :
    KBinds K fd ps ks gFwd gFwd := by
  obtain ⟨oc, od, kV, doc, pm, an, cdv, ct, osl, rfl, lk, hcd⟩ := F.ex
  constructor
  · intro s us ws _ hl
    cases us with
    | nil => exact .of_eq (h kV doc pm an cdv ct ws (by simpa [gFwd] using hl))
    | cons u us => exact absurd (List.length_eq_zero_iff.mp hl.symm) h0
  · intro vs us zs ws r rz
    cases r with
    | nil => exact rz
    | cons _ _ => exact .nil
/-! ### sizes -/
theorem log_lt {i : Int} (h : i.natAbs < 10 ^ 300) : i.natAbs.log2 < 1920 := by
  by_cases h0 : i.natAbs = 0
  · rw [h0]; decide
  · rw [Nat.log2_lt h0]
    exact Nat.lt_trans h (by decide +kernel)
theorem kit_self {K : PySem.W.Frag} {t : Value} : PySem.W.kitOne K t t = some true := by
  unfold PySem.W.kitOne
  simp
theorem i_int {K : PySem.W.Frag} {H : Hp} (i : Int) : TyX K H (.int i) (.type "int") := .base (.int i)
end Own
namespace Own
open PySem PySem.Spec PyProof.Rows L2
/-- an own class as isinstance and == want it -/
structure OwnC (K : PySem.W.Frag) (C : Addr) : Prop where
  cl : Cls K C
  ha : PySem.W.findIn K (.ref C) "__class__" = some (some (.builtin "object.__class__"))
  hn : PySem.W.specialIn K (.builtin "object.__class__") "__get__" = some (some (.builtin "getset_descriptor.__get__"))
  ht : PySem.W.takesIn K (.builtin "object.__class__") = some true
  hm : PySem.W.mroIn K C (.type "object") = some true
theorem OwnC.ty {K : PySem.W.Frag} {C p dx : Addr} {H : Hp} {fs : List (Str × V)} (c : OwnC K C) (h : H p = some (.ins C dx fs)) : TyX K H (.ref p) (.ref C) :=
  .base (.ins h c.cl c.ha c.hn c.ht c.hm)
theorem nf_self {K : PySem.W.Frag} {C : Addr} : PySem.W.notFirst K C (.ref C) = true := by
  unfold PySem.W.notFirst
  simp
theorem OwnC.rgt {K : PySem.W.Frag} {C p dx : Addr} {H : Hp} {fs : List (Str × V)} (c : OwnC K C) (h : H p = some (.ins C dx fs)) : Rgt K H C (.ref p) :=
  ⟨_, c.ty h, nf_self⟩
end Own
namespace Own
open PySem PySem.Spec PyProof.Rows L2
/-! ### data that can be shown -/
mutual
def Oky : PyData → Prop
  | .none => True
  | .bool _ => True
  | .int i => i.natAbs < 10 ^ 300
  | .str x => ∀ c ∈ x.cps.toList, c < 16 ^ 8
  | .list xs => OkyAll xs
  | .tuple xs => OkyAll xs
  | .dict _ => False
def OkyAll : List PyData → Prop
  | [] => True
  | x :: xs => Oky x ∧ OkyAll xs
end
mutual
theorem Oky.all : ∀ {d : PyData}, Oky d → d.showable = true ∧ d.hasDict = false ∧ d.leavesShort 400 = true
  | .none, _ => ⟨rfl, rfl, rfl⟩
  | .bool _, _ => ⟨rfl, rfl, rfl⟩
  | .int i, h => by
    have h1 : i.natAbs < 10 ^ 300 := h
    have h2 := int_text_length_le10 (a := i) (k := 300) (by decide) h1
    refine ⟨?_, rfl, ?_⟩
    · simp only [PyData.showable, decide_eq_true_eq]
      exact log_lt h1
    · have e : (PyData.shown (.int i)).length ≤ 400 := by
        show (Str.ofString (toString i)).length ≤ 400
        rw [PySem.ofString_length]
        omega
      simpa only [PyData.leavesShort, decide_eq_true_eq] using e
  | .str x, h => by
    refine ⟨rfl, rfl, ?_⟩
    simp only [PyData.leavesShort, List.all_eq_true, decide_eq_true_eq]
    exact h
  | .list xs, h => by
    have z := OkyAll.all (xs := xs) h
    exact ⟨by simpa [PyData.showable] using z.1, by simpa [PyData.hasDict] using z.2.1, by simpa [PyData.leavesShort] using z.2.2⟩
  | .tuple xs, h => by
    have z := OkyAll.all (xs := xs) h
    exact ⟨by simpa [PyData.showable] using z.1, by simpa [PyData.hasDict] using z.2.1, by simpa [PyData.leavesShort] using z.2.2⟩
  | .dict _, h => h.elim
theorem OkyAll.all : ∀ {xs : List PyData}, OkyAll xs → PyData.showableAll xs = true ∧ PyData.hasDictAll xs = false ∧ PyData.leavesShortAll 400 xs = true
  | [], _ => ⟨rfl, rfl, rfl⟩
  | x :: xs, h => by
    have z := Oky.all (d := x) h.1
    have y := OkyAll.all (xs := xs) h.2
    exact ⟨by simp [PyData.showableAll, z.1, y.1], by simp [PyData.hasDictAll, z.2.1, y.2.1], by simp [PyData.leavesShortAll, z.2.2, y.2.2]⟩
end
mutual
def wt : PyData → Nat
  | .none => 0
  | .bool _ => 0
  | .int _ => 1000
  | .str x => x.cps.size
  | .list xs => wtAll xs
  | .tuple xs => wtAll xs
  | .dict _ => 0
def wtAll : List PyData → Nat
  | [] => 0
  | x :: xs => wt x + 1 + wtAll xs
end
mutual
theorem wt_le : ∀ {d : PyData}, Oky d → d.weight ≤ wt d
  | .none, _ => Nat.le_refl _
  | .bool _, _ => Nat.le_refl _
  | .int i, h => by
    have h1 : i.natAbs < 10 ^ 300 := h
    show (if i == 0 then 0 else i.natAbs.log2 + 1) ≤ 1000
    split
    · omega
    · rename_i z
      have h0 : i.natAbs ≠ 0 := by
        intro e
        have : i = 0 := Int.natAbs_eq_zero.mp e
        subst this
        exact z rfl
      have h2 : i.natAbs.log2 < 999 := by
        rw [Nat.log2_lt h0]
        exact Nat.lt_trans h1 (by decide +kernel)
      omega
  | .str x, _ => Nat.le_refl _
  | .list xs, h => by
    show PyData.weightAll xs ≤ wtAll xs
    exact wtAll_le (xs := xs) h
  | .tuple xs, h => by
    show PyData.weightAll xs ≤ wtAll xs
    exact wtAll_le (xs := xs) h
  | .dict _, h => h.elim
theorem wtAll_le : ∀ {xs : List PyData}, OkyAll xs → PyData.weightAll xs ≤ wtAll xs
  | [], _ => Nat.le_refl _
  | x :: xs, h => by
    have a := wt_le (d := x) h.1
    have b := wtAll_le (xs := xs) h.2
    show x.weight + 1 + PyData.weightAll xs ≤ wt x + 1 + wtAll xs
    omega
end
def rReprO (K : PySem.W.Frag) : List V → Hp → VK → Prop := fun xs H Q =>
  ∃ x d, xs = [x] ∧ Dp K H x d ∧ Oky d ∧ Nat.ble d.depth 60 = true ∧ Nat.ble (wt d) 30000 = true ∧ (∃ a, x = .ref a) ∧ Q (.str d.shown) H
theorem call_repr {X : Cx} (hg : X.A.guards = some []) (hu : X.A.units + 64 < cLine) : CallR X (.builtin "repr") (rReprO X.K) := by
  intro pins s σ H xs us Q I r h
  obtain ⟨x, d, e, hd, ho, h1, h2, hx, q⟩ := h
  have z := ho.all
  refine call_reprD hg hu pins s σ H xs us Q I r ⟨x, d, e, hd, z.1, z.2.1, Nat.le_of_ble_eq_true h1, ?_, hx, q⟩
  have w := PyData.shown_le 400 (by decide) d z.2.2
  have w2 := Nat.le_trans (wt_le ho) (Nat.le_of_ble_eq_true h2)
  have w3 : (400 + 2) * d.weight ≤ 402 * 30000 := Nat.mul_le_mul_left _ w2
  rw [sizeLine_eq]
  omega
end Own
namespace Own
open PySem PySem.Spec PyProof.Rows L2
/-! ### rules with the written part named (inside comprehensions) -/
section
variable {X : Cx} {K : PySem.W.Frag}
theorem kIxL (h : X.K = K := by rfl) : IxR X (rIxL K) := by
  subst h
  exact ix_list
theorem kIxT (h : X.K = K := by rfl) : IxR X (rIxT K) := by
  subst h
  exact ix_tup
theorem kIsi (h : X.K = K := by rfl) : CallR X (.builtin "isinstance") (rIsi K) := by
  subst h
  exact call_isi
theorem kLenSeq (h : X.K = K := by rfl) : CallR X (.builtin "len") (fun xs H Q => ∃ p ys, xs = [.ref p] ∧ (SqL K H p ys ∨ SqT K H p ys) ∧ Q (.int ys.length) H) := by
  subst h
  exact call_len_seq
end
end Own

/-! Texts of integers -/
namespace Own
open PySem PySem.Spec PyProof.Rows L2 TL
/-- the signs of an integer's text -/
def intL (i : Int) : List Nat := if i < 0 then 45 :: numL (0 - i).toNat else numL i.toNat
theorem tl_int (i : Int) : (Str.ofString (toString i)).cps.toList = intL i := by
  unfold intL
  split
  · rename_i h
    obtain ⟨n, hn⟩ := Int.eq_ofNat_of_zero_le (show 0 ≤ 0 - i by omega)
    rw [PyProof.Rows.toString_neg h, hn]
    have e : tl (Str.ofString (toString (n : Int))) = numL n := tl_num n
    rw [tl_ofString] at e
    have e2 : tl (Str.ofString ("-" ++ toString (n : Int))) = 45 :: numL n := by
      rw [tl_ofString, String.toList_append, List.map_append, e]
      rfl
    exact e2
  · rename_i h
    obtain ⟨n, hn⟩ := Int.eq_ofNat_of_zero_le (show 0 ≤ i by omega)
    rw [hn]
    exact tl_num n
theorem intL_inj {i j : Int} (h : intL i = intL j) : i = j := by
  have no : ∀ n m : Nat, (45 : Nat) :: numL n ≠ numL m := fun n m e => by
    have : 45 ∈ numL m := by rw [← e]; exact List.Mem.head _
    exact numL_free (.inl (by decide)) this
  unfold intL at h
  split at h
  · split at h
    · injection h with _ h
      have := numL_inj h
      omega
    · exact absurd h (no _ _)
  · split at h
    · exact absurd h.symm (no _ _)
    · have := numL_inj h
      omega
theorem toList_app (x y : Str) : (x ++ y).cps.toList = x.cps.toList ++ y.cps.toList := by
  show (x.cps ++ y.cps).toList = _
  simp
theorem u65 {k : Nat} {A : Around} (hr : Room k A) : A.units + 65 < cLine := by
  have := hr.un
  omega
end Own
namespace Own
open PySem PySem.Spec PyProof.Rows L2
/-! ### a list that a comprehension fills: D, beside what stands still -/
structure Build (M H : Hp) (D : Addr) (l : List V) (M' H' : Hp) : Prop where
  new : H D = none
  ex : Same M M'
  inn : Same M' H'
  off : M' D = none
  at_ : H' D = some (.lst l)
  out : ∀ b o, M b = none → H b = some o → M' b = none ∧ H' b = some o
section
variable {M H M' H' M1 H1 : Hp} {D : Addr} {l : List V}
theorem Build.start (hM : Same M H) (nD : H D = none) : Build M H D [] M (upd H D (.lst [])) := by
  refine ⟨nD, Same.refl M, ?_, hM.free nD, upd_same, ?_⟩
  · intro b o e
    exact same_new nD b o (hM b o e)
  · intro b o e1 e2
    exact ⟨e1, same_new nD b o e2⟩
theorem Build.grow (b : Build M H D l M' H') (g : Gr M' H' M1 H1) : Build M H D l M1 H1 := by
  have z := g.out D _ b.off b.at_
  refine ⟨b.new, b.ex.trans g.ex, g.inn, z.1, z.2, ?_⟩
  intro c o e1 e2
  have y := b.out c o e1 e2
  exact g.out c o y.1 y.2
theorem Build.push (b : Build M H D l M' H') (x : V) : Build M H D (l ++ [x]) M' (upd H' D (.lst (l ++ [x]))) := by
  refine ⟨b.new, b.ex, ?_, b.off, upd_same, ?_⟩
  · intro c o e
    rw [upd_ne (ne_of_none e b.off)]
    exact b.inn c o e
  · intro c o e1 e2
    have y := b.out c o e1 e2
    refine ⟨y.1, ?_⟩
    rw [upd_ne (ne_of_none e2 b.new)]
    exact y.2
theorem Build.done (b : Build M H D l M' H') : ∃ M2, Gr M H M2 H' ∧ M2 D = some (.lst l) ∧ Same M' M2 := by
  refine ⟨upd M' D (.lst l), ⟨b.ex.trans (same_new b.off), ?_, ?_⟩, upd_same, same_new b.off⟩
  · intro c o e
    by_cases h : c = D
    · subst h
      rw [upd_same] at e
      rw [← e]
      exact b.at_
    · rw [upd_ne h] at e
      exact b.inn c o e
  · intro c o e1 e2
    have y := b.out c o e1 e2
    refine ⟨?_, y.2⟩
    rw [upd_ne (ne_of_none e2 b.new)]
    exact y.1
end
end Own
namespace Own
open PySem PySem.Spec PyProof.Rows L2
/-! ### a list that a comprehension fills while things are drawn -/
structure BuildV (v : Addr) (n : Nat) (M : Hp) (D : Addr) (l : List V) (M' H' : Hp) : Prop where
  ex : Same M M'
  off : M D = none
  vl : Vl v n M' H'
  at_ : M' D = some (.lst l)
section
variable {v D : Addr} {n m : Nat} {M H M' H' M1 H1 : Hp} {l : List V}
theorem Vl.put (w : Vl v n M H) {o : HO} (hD : D ≠ v) : Vl v n (upd M D o) (upd H D o) := by
  obtain ⟨x, y, z, h, r⟩ := w.at_
  refine ⟨?_, ?_, x, y, z, ?_, r⟩
  · intro b u e
    by_cases hb : b = D
    · subst hb
      rw [upd_same] at e ⊢
      exact e
    · rw [upd_ne hb] at e ⊢
      exact w.inn b u e
  · rw [upd_ne hD.symm]
    exact w.off
  · rw [upd_ne hD.symm]
    exact h
theorem BuildV.start (w : Vl v n M H) (nD : H D = none) : BuildV v n M D [] (upd M D (.lst [])) (upd H D (.lst [])) := by
  have hD : D ≠ v := by
    obtain ⟨x, y, z, h, _⟩ := w.at_
    exact (ne_of_none h nD).symm
  exact ⟨same_new (w.inn.free nD), w.inn.free nD, w.put hD, upd_same⟩
theorem BuildV.draw (b : BuildV v n M D l M' H') (e : Same M' M1) (w : Vl v m M1 H1) : BuildV v m M D l M1 H1 :=
  ⟨b.ex.trans e, b.off, w, e _ _ b.at_⟩
theorem BuildV.push (b : BuildV v n M D l M' H') (y : V) : BuildV v n M D (l ++ [y]) (upd M' D (.lst (l ++ [y]))) (upd H' D (.lst (l ++ [y]))) := by
  have hD : D ≠ v := by
    intro e
    have := b.vl.off
    rw [← e, b.at_] at this
    cases this
  refine ⟨?_, b.off, b.vl.put hD, upd_same⟩
  intro c o e
  rw [upd_ne (ne_of_none e b.off)]
  exact b.ex c o e
theorem BuildV.here (b : BuildV v n M D l M' H') : H' D = some (.lst l) := b.vl.inn _ _ b.at_
end
end Own

/-! Small things that many laws share -/
namespace Own
open PySem PySem.Spec PyProof.Rows L2
section
variable {K : PySem.W.Frag}
def sp4 (f : V → V → V → V → Hp → VK → Prop) : Sp := fun vs H Q _ => ∃ x y z u, vs = [x, y, z, u] ∧ f x y z u H Q
theorem len4 {f : V → V → V → V → Hp → VK → Prop} {ps : List Str} (hp : ps.length = 4) : ∀ vs H Q E, sp4 f vs H Q E → vs.length = ps.length := fun _ _ _ _ h => by
  obtain ⟨x, y, z, u, rfl, _⟩ := h
  exact hp.symm
theorem vl_set {v : Addr} {n : Nat} {M H : Hp} {x y z : Int} (hi : Same M H) (ho : M v = none) (hx : 0 ≤ x) (hz : 0 ≤ z) (hn : z ≤ n) :
    Vl v n M (upd H v (.lst [.int x, .int y, .int z])) := by
  refine ⟨fun b o e => ?_, ho, x, y, z, upd_same, hx, hz, hn⟩
  have hb : b ≠ v := ne_of_none e ho
  rw [upd_ne hb]
  exact hi b o e
theorem tup_next {xs : List V} {Q : VK} {H M : Hp} (hM : Same M H) (hl : xs.length ≤ 1000) (q : ∀ p M' H', Gr M H M' H' → M' p = some (.tup xs) → Q (.ref p) H') :
    xs.length ≤ sizeLine ∧ ∀ p, H p = none → Q (.ref p) (upd H p (.tup xs)) :=
  ⟨Nat.le_of_lt (small1000 hl), fun p hp => q p _ _ (gr_new hM hp) upd_same⟩
def At (M : Hp) (p : Addr) (o : HO) : Prop := M p = some o
theorem At.mono {M M1 : Hp} {p : Addr} {o : HO} (h : At M p o) (e : Same M M1) : At M1 p o := e _ _ h
theorem szL {xs : List V} (h : Nat.ble xs.length 1000 = true) : xs.length ≤ sizeLine := Nat.le_of_lt (small1000 (Nat.le_of_ble_eq_true h))
theorem new_of {H H' M : Hp} {p : Addr} {o : HO} (e : upd H p o = H') (hM : Same M H) (hp : H p = none) : ∃ M', Gr M H M' H' ∧ At M' p o :=
  ⟨upd M p o, e ▸ gr_new hM hp, upd_same⟩
theorem lst_next {xs : List V} {Q : VK} {H M : Hp} (hM : Same M H) (hl : xs.length ≤ 1000) (q : ∀ p M' H', Gr M H M' H' → M' p = some (.lst xs) → Q (.ref p) H') :
    xs.length ≤ sizeLine ∧ ∀ p, H p = none → Q (.ref p) (upd H p (.lst xs)) :=
  ⟨Nat.le_of_lt (small1000 hl), fun p hp => q p _ _ (gr_new hM hp) upd_same⟩
theorem ok2 {d e : PyData} (h : Oky d) (k : Oky e) : Oky (.list [d, e]) := ⟨h, k, trivial⟩
theorem dp2 {M : Hp} {p : Addr} {x y : V} {d e : PyData} (h : M p = some (.lst [x, y])) (hx : Dp K M x d) (hy : Dp K M y e) : Dp K M (.ref p) (.list [d, e]) :=
  .lst (SqL.of h) (.cons hx (.cons hy .nil))
theorem bl_refl {Q : VK} {x : V} {H : Hp} (q : Q (.bl true) H) : Q (.bl (decide (x = x))) H := by
  rw [decide_eq_true rfl]
  exact q
theorem oki {i : Int} (h : i.natAbs < 10 ^ 300) : Oky (.int i) := h
theorem yes_if {σ : L2.St} {H : Hp} {A B : Hp → Prop} (h : A H) : tYes σ H (fun b H3 => if b = true then A H3 else B H3) := by
  show (if true = true then A H else B H)
  rw [if_pos rfl]
  exact h
theorem big_mul {i j : Int} (hi : i.natAbs < 10 ^ 300) (hj : j.natAbs < 10 ^ 300) : CMulW i j :=
  wide_mul (a := 1000) (b := 1000) (Nat.lt_trans hi (by decide +kernel)) (Nat.lt_trans hj (by decide +kernel)) (by decide) (by decide) (by decide)
theorem big_div {i j : Int} (h : 0 < j) (hj : j.natAbs < 10 ^ 300) : CDivW i j := wide_div (b := 1000) h (Nat.lt_trans hj (by decide +kernel)) (by decide) (by decide)
theorem kEqD {X : Cx} (hu : X.A.units + 64 < cLine) (h : X.K = K := by rfl) : OpR X (compareOp .Eq) (rEqD K) := by
  subst h
  exact op_eqD hu
theorem kNeD {X : Cx} (hu : X.A.units + 64 < cLine) (h : X.K = K := by rfl) : OpR X (compareOp .NotEq) (rNeD K) := by
  subst h
  exact op_neD hu
theorem kSum {X : Cx} (hc : X.calm = true := by rfl) (h : X.K = K := by rfl) : CallR X (.builtin "sum") (rSum K) := by
  subst h
  exact cr_sum hc
/-- a truth value, the heap grown -/
def Say (M H : Hp) (b : Bool) (Q : VK) : Prop := ∀ M' H', Gr M H M' H' → Q (.bl b) H'
theorem txt_len {i : Int} (h : i.natAbs < 10 ^ 300) : (Str.ofString (toString i)).length ≤ 301 := by
  rw [PySem.ofString_length]
  exact int_text_length_le10 (by decide) h
theorem abs_nn (i : Int) : 0 ≤ (if i < 0 then -i else i) := by split <;> omega
end
end Own

/-! Own rules: tables of the module, texts backwards, a text's place in a text, a text so often -/
namespace Own
open PySem PySem.Spec PyProof.Rows L2
section
variable {X : Cx} {K : PySem.W.Frag} {w : World} {d : Addr}
def rInTab (K : PySem.W.Frag) (d : Addr) : R2 := fun x y H Q => ∃ (z : Str) (r : Option Value), x = .str z ∧ y = .ref d ∧ PySem.W.nsIn K d z = some r ∧ Q (.bl r.isSome) H
theorem op_inTab (h : ∃ es n, KDict K w d es n) (hK : X.K = K := by rfl) (hw : X.w = w := by rfl) : OpR X (compareOp .In) (rInTab K d) := by
  subst hK
  subst hw
  obtain ⟨es, n, D⟩ := h
  exact op_in_kd D
def rIxTab (K : PySem.W.Frag) (d : Addr) : R2 := fun x y H Q => ∃ (z : Str) (u0 : Value) (v0 : V), x = .ref d ∧ y = .str z ∧ PySem.W.nsIn K d z = some (some u0) ∧ RelV v0 u0 ∧ Q v0 H
theorem ix_tab (h : ∃ es n, KDict K w d es n) (hK : X.K = K := by rfl) (hw : X.w = w := by rfl) : IxR X (rIxTab K d) := by
  subst hK
  subst hw
  obtain ⟨es, n, D⟩ := h
  intro value slice pins s σ H x y v u Q I rx ry h hs
  have h' := h
  obtain ⟨z, u0, v0, rfl, rfl, e, r, q⟩ := h
  cases rx
  exact tail_any (kd_type D I) PySem.F.slot_dict_getitem.lookup (op_item_kd D pins s σ H (.ref d) (.str z) _ _ Q I rfl ry h') hs
/-- s.index(y), y within -/
def rIdx : V → List V → Hp → VK → Prop := fun x xs H Q => ∃ (a b : Str) (k : Nat), x = .str a ∧ xs = [.str b] ∧ Txt.index0 a b = some k ∧ Q (.int (k : Nat)) H
theorem mt_idx : MtR X "str.index" rIdx := by
  intro pins s σ H x xs v us Q I rx rs h
  obtain ⟨a, b, k, rfl, rfl, e, q⟩ := h
  obtain ⟨t, rfl⟩ := rx
  cases rs with
  | cons r1 rs =>
    cases rs
    obtain ⟨u, rfl⟩ := r1
    cases z : Builtin.Str.occurrences a b 0 a.length 1 with
    | nil =>
      unfold Txt.index0 at e
      rw [z] at e
      cases e
    | cons k' rest =>
      unfold Txt.index0 at e
      rw [z] at e
      cases e
      exact PySem.SC.index z ⟨.int (k : Nat), H, I.tok _, ⟨_, rfl⟩, q⟩
/-- z[::-1] -/
def tRevS (te : TE) : TE := fun σ H Q => te σ H fun x H1 => ∃ z : Str, x = .str z ∧ z.length ≤ sizeLine ∧ Q (.str ⟨z.cps.toList.reverse.toArray⟩) H1
theorem rev_range (c : Array Nat) : ((List.range c.size).map fun k => c.getD (c.size - 1 - k) 0) = c.toList.reverse := by
  apply List.ext_getElem
  · simp
  · intro i h1 h2
    simp only [List.length_map, List.length_range] at h1
    simp only [List.getElem_map, List.getElem_range, List.getElem_reverse, Array.getD, Array.length_toList, Array.getElem_toList]
    rw [dif_pos (by omega)]
    rfl
theorem made_rev (z : Str) (t u : Tok) : PySem.sliceMade z t none none (some (-1, u)) = .str ⟨z.cps.toList.reverse.toArray⟩ := by
  have h := step_rev_list z u
  have h1 : PySem.sliceMade z t none none (some (-1, u)) = .str ⟨((PySem.slicePicked z none none (some (-1, u))).filterMap (z.cps[·]?)).toArray⟩ := by
    unfold PySem.sliceMade
    rw [if_neg]
    have : ((((some ((-1 : Int), u)).map (·.1)).getD 1 == 1)) = false := rfl
    rw [this]; simp
  rw [h1]
  unfold Txt.sliceBy at h
  rw [if_neg (by
    have : ((((some ((-1 : Int), u)).map (·.1)).getD 1 == 1)) = false := rfl
    rw [this]; simp)] at h
  have h2 : (PySem.slicePicked z none none (some (-1, u))).filterMap (z.cps[·]?) = z.cps.toList.reverse := by
    rw [← rev_range]
    simpa [Str.length] using h
  rw [h2]
theorem pe_revS {e : Expr} {te : TE} {k : Nat} {p1 p2 p3 pos : Pos} (he : PE X e te) : PE X (.Subscript e (.Slice none none (some (.UnaryOp .USub (.Constant (.int 1) k p1) p2)) p3) pos) (tRevS te) := by
  refine ⟨fun pins s σ H Q I h => ?_⟩
  refine Subscript_ (thn (he.run pins s σ H _ I h) fun v s1 ⟨x, H1, I1, r1, q1⟩ => ?_)
  obtain ⟨z, ex, hz, q⟩ := q1
  subst ex
  obtain ⟨t, rfl⟩ := r1
  have hst : PO X (some (.UnaryOp .USub (.Constant (.int 1) k p1) p2)) (tPart (tUn (rU fun i => .int (-i)) (tC (.int 1)))) := po_some (pe_un un_neg pe_int)
  refine wpAny_Slice (thn (po_none.run pins s1 σ H1 (fun o H2 => o = none ∧ H2 = H1) I1 ⟨rfl, rfl⟩) fun vl s2 ⟨l, H2, I2, pl, el, e2⟩ => ?_)
  subst el e2
  refine thn (po_none.run pins s2 σ H2 (fun o H3 => o = none ∧ H3 = H2) I2 ⟨rfl, rfl⟩) fun vu s3 ⟨u, H3, I3, pu, eu, e3⟩ => ?_
  subst eu e3
  refine thn (hst.run pins s3 σ H3 (fun o H4 => o = some (-1) ∧ H4 = H3) I3 ⟨1, rfl, -1, rfl, rfl, rfl⟩) fun vs s4 ⟨o, H4, I4, ps, eo, e4⟩ => ?_
  subst eo e4
  have I5 : Inv X pins σ H4 { s4 with heap := s4.heap.push { cls := .type "slice", data := .fields #[vl, vu, vs] } } := I4.kept (t' := s4.toks) fun b ob q => Heap.get?_push_of_some _ q
  obtain ⟨l', rfl, hl'⟩ := IsPart.raw pl
  obtain ⟨u', rfl, hu'⟩ := IsPart.raw pu
  obtain ⟨st', rfl, hst'⟩ := IsPart.raw ps
  have e1 : l' = none := by cases l' with | none => rfl | some _ => cases hl'
  have e2 : u' = none := by cases u' with | none => rfl | some _ => cases hu'
  obtain ⟨tk, e3⟩ : ∃ tk, st' = some (-1, tk) := by
    cases st' with
    | none => cases hst'
    | some y => obtain ⟨a, b⟩ := y; cases hst'; exact ⟨b, rfl⟩
  subst e1
  subst e2
  subst e3
  refine tail_any (ops := [.str z t, .ref s4.heap.objs.size]) (typeIs_str _ z t) F.slot_str_getitem.lookup ?_ (by with_unfolding_all rfl)
  refine wpAny_getItem_str_slice (l := none) (u := none) (st := some (-1, tk)) ⟨_, Heap.get?_push_size _ rfl, rfl, rfl⟩ rfl ?_
  rw [made_rev]
  refine ⟨?_, .str _, H4, I5.tok _, ⟨_, rfl⟩, q⟩
  have hl : (⟨z.cps.toList.reverse.toArray⟩ : Str).length = z.length := by
    show z.cps.toList.reverse.toArray.size = z.cps.size
    simp
  rw [hl]
  exact hz
/-- a text so often -/
def repS (z : Str) (k : Nat) : Str := ⟨(List.replicate k z.cps.toList).flatten.toArray⟩
theorem rep_fold (c : Array Nat) : ∀ (k : Nat) (b : Array Nat), ((List.replicate k c).foldl (· ++ ·) b).toList = b.toList ++ (List.replicate k c.toList).flatten
  | 0, b => by simp
  | k + 1, b => by
    rw [List.replicate_succ, List.foldl_cons, rep_fold c k, List.replicate_succ, List.flatten_cons, Array.toList_append, List.append_assoc]
def rRepS : R2 := fun x y H Q => ∃ (z : Str) (k : Nat), x = .str z ∧ y = .int (k : Int) ∧ 2 ≤ k ∧ k < 1000 ∧ z.length * k ≤ sizeLine ∧ Q (.str (repS z k)) H
theorem op_repS : OpR X (binaryOp .Mult) rRepS := by
  intro pins s σ H x y v u Q I rx ry h
  obtain ⟨z, k, rfl, rfl, h2, h3, hz, q⟩ := h
  obtain ⟨t, rfl⟩ := rx
  obtain ⟨t', rfl⟩ := ry
  have e0 : ¬ ((k : Int) < 1) := by omega
  have e1 : ((k : Int) == 1) = false := by
    rw [beq_eq_false_iff_ne]
    omega
  have lz : z.length ≤ sizeLine := Nat.le_trans (Nat.le_mul_of_pos_right _ (by omega)) hz
  refine P.mul_str ?_ (fun _ _ => ?_) (fun _ _ => ?_) ?_
  · rw [decide_eq_false (by omega), decide_eq_false (by omega)]
    rfl
  · have : (1000 : Int) * 9000000000000000 ≤ 2 ^ 63 - 1 := by decide
    have h5 : (9000000000000000 : Int) ≤ (2 ^ 63 - 1) / (k : Int) := Int.le_ediv_of_mul_le (by omega) (by
      have : (9000000000000000 : Int) * (k : Int) ≤ 9000000000000000 * 1000 := Int.mul_le_mul_of_nonneg_left (by omega) (by decide)
      omega)
    rw [sizeLine_eq] at lz
    omega
  · show Builtin.Str.tooLong (z.length * k) = false
    unfold Builtin.Str.tooLong
    simp only [decide_eq_false_iff_not]
    omega
  · rw [if_neg e0, e1, Bool.false_or]
    by_cases hz0 : z.length = 0
    · have e : repS z k = z := by
        obtain ⟨c⟩ := z
        have hc : c = #[] := Array.eq_empty_of_size_eq_zero hz0
        subst hc
        show (⟨(List.replicate k ([] : List Nat)).flatten.toArray⟩ : Str) = _
        have : ∀ k, (List.replicate k ([] : List Nat)).flatten = [] := fun k => by simp
        rw [this]
      rw [if_pos (by simp [hz0])]
      rw [e] at q
      exact ⟨.str z, H, I, ⟨_, rfl⟩, q⟩
    · rw [if_neg (by simp [hz0])]
      have e : (⟨(List.replicate (k : Int).toNat z.cps).foldl (· ++ ·) #[]⟩ : Str) = repS z k := by
        have := rep_fold z.cps k #[]
        show (⟨(List.replicate k z.cps).foldl (· ++ ·) #[]⟩ : Str) = ⟨(List.replicate k z.cps.toList).flatten.toArray⟩
        congr 1
        apply Array.ext'
        rw [this]
        simp
      rw [e]
      refine ⟨?_, .str _, H, I.tok _, ⟨_, rfl⟩, q⟩
      have hl : (repS z k).length = z.length * k := by
        show ((List.replicate k z.cps.toList).flatten.toArray).size = z.cps.size * k
        simp [List.sum_replicate_nat, Nat.mul_comm]
      rw [hl]
      exact hz
/-! ### lists and texts alike -/
def rLenLS (K : PySem.W.Frag) : List V → Hp → VK → Prop := fun xs H Q => (∃ p ys, xs = [.ref p] ∧ (SqL K H p ys ∨ SqT K H p ys) ∧ Q (.int ys.length) H) ∨ ∃ z : Str, xs = [.str z] ∧ z.length ≤ sizeLine ∧ Q (.int z.length) H
theorem len_ls (h : X.K = K := by rfl) : CallR X (.builtin "len") (rLenLS K) := by
  subst h
  intro pins s σ H xs us Q I r h
  rcases h with h | h
  · exact call_len_seq pins s σ H xs us Q I r h
  · exact call_len_str pins s σ H _ us Q I r h
def rIxLS (K : PySem.W.Frag) : R2 := fun x y H Q => rIxL K x y H Q ∨ rIxS x y H Q
theorem ix_ls (h : X.K = K := by rfl) : IxR X (rIxLS K) := by
  subst h
  intro value slice pins s σ H x y v u Q I rx ry h hs
  rcases h with h | h
  · exact ix_list value slice pins s σ H x y v u Q I rx ry h hs
  · exact ix_str value slice pins s σ H x y v u Q I rx ry h hs
end
end Own

namespace K63
open PySem PySem.Spec PyProof.Rows L2 Own
def topS (i : Nat) : Stmt := PySem.Challenge.pw_pressworlds_k63_whole_moves_done.main.body.getD i (.Pass ⟨0, 0, 0, 0⟩)
abbrev s_is_integer : Stmt := topS 8
theorem sc_is_integer : FnScope ["value"] ["value"] (defScope s_is_integer) :=
  ⟨rfl, rfl, rfl, by decide +kernel, rfl, by decide +kernel, by decide +kernel⟩
abbrev s_check_whole : Stmt := topS 14
theorem sc_check_whole : FnScope ["value"] ["value"] (defScope s_check_whole) :=
  ⟨rfl, rfl, rfl, by decide +kernel, rfl, by decide +kernel, by decide +kernel⟩
abbrev s_Move_init : Stmt := inClass (topS 15) 0
theorem sc_Move_init : FnScope ["self", "east", "north", "area"] ["self", "east", "north", "area"] (defScope s_Move_init) :=
  ⟨rfl, rfl, rfl, by decide +kernel, rfl, by decide +kernel, by decide +kernel⟩
abbrev s_Move_east : Stmt := inClass (topS 15) 2
theorem sc_Move_east : FnScope ["self"] ["self"] (defScope s_Move_east) :=
  ⟨rfl, rfl, rfl, by decide +kernel, rfl, by decide +kernel, by decide +kernel⟩
abbrev s_Move_north : Stmt := inClass (topS 15) 3
theorem sc_Move_north : FnScope ["self"] ["self"] (defScope s_Move_north) :=
  ⟨rfl, rfl, rfl, by decide +kernel, rfl, by decide +kernel, by decide +kernel⟩
abbrev s_Move_area : Stmt := inClass (topS 15) 4
theorem sc_Move_area : FnScope ["self"] ["self"] (defScope s_Move_area) :=
  ⟨rfl, rfl, rfl, by decide +kernel, rfl, by decide +kernel, by decide +kernel⟩
abbrev s_Move_str : Stmt := inClass (topS 15) 5
theorem sc_Move_str : FnScope ["self"] ["self"] (defScope s_Move_str) :=
  ⟨rfl, rfl, rfl, by decide +kernel, rfl, by decide +kernel, by decide +kernel⟩
abbrev s_Move_eq : Stmt := inClass (topS 15) 6
theorem sc_Move_eq : FnScope ["self", "other"] ["self", "other"] (defScope s_Move_eq) :=
  ⟨rfl, rfl, rfl, by decide +kernel, rfl, by decide +kernel, by decide +kernel⟩
abbrev s_check_move : Stmt := topS 17
theorem sc_check_move : FnScope ["value"] ["value"] (defScope s_check_move) :=
  ⟨rfl, rfl, rfl, by decide +kernel, rfl, by decide +kernel, by decide +kernel⟩
abbrev s_check_moves : Stmt := topS 18
theorem sc_check_moves : FnScope ["one", "other"] ["one", "other"] (defScope s_check_moves) :=
  ⟨rfl, rfl, rfl, by decide +kernel, rfl, by decide +kernel, by decide +kernel⟩
abbrev s_triple : Stmt := topS 19
theorem sc_triple : FnScope ["one"] ["one"] (defScope s_triple) :=
  ⟨rfl, rfl, rfl, by decide +kernel, rfl, by decide +kernel, by decide +kernel⟩
abbrev s_put_triples : Stmt := topS 20
theorem sc_put_triples : FnScope ["one", "other"] ["one", "other"] (defScope s_put_triples) :=
  ⟨rfl, rfl, rfl, by decide +kernel, rfl, by decide +kernel, by decide +kernel⟩
abbrev s_back_triple : Stmt := topS 21
theorem sc_back_triple : FnScope ["one"] ["one"] (defScope s_back_triple) :=
  ⟨rfl, rfl, rfl, by decide +kernel, rfl, by decide +kernel, by decide +kernel⟩
abbrev s_many_triples : Stmt := topS 22
theorem sc_many_triples : FnScope ["one", "times"] ["one", "times"] (defScope s_many_triples) :=
  ⟨rfl, rfl, rfl, by decide +kernel, rfl, by decide +kernel, by decide +kernel⟩
abbrev s_gap_of : Stmt := topS 23
theorem sc_gap_of : FnScope ["one", "other"] ["one", "other"] (defScope s_gap_of) :=
  ⟨rfl, rfl, rfl, by decide +kernel, rfl, by decide +kernel, by decide +kernel⟩
abbrev s_made_move : Stmt := topS 24
theorem sc_made_move : FnScope ["numbers"] ["numbers"] (defScope s_made_move) :=
  ⟨rfl, rfl, rfl, by decide +kernel, rfl, by decide +kernel, by decide +kernel⟩
abbrev s_move_then : Stmt := topS 25
theorem sc_move_then : FnScope ["one", "other"] ["one", "other"] (defScope s_move_then) :=
  ⟨rfl, rfl, rfl, by decide +kernel, rfl, by decide +kernel, by decide +kernel⟩
abbrev s_move_undone : Stmt := topS 26
theorem sc_move_undone : FnScope ["one"] ["one"] (defScope s_move_undone) :=
  ⟨rfl, rfl, rfl, by decide +kernel, rfl, by decide +kernel, by decide +kernel⟩
abbrev s_move_often : Stmt := topS 27
theorem sc_move_often : FnScope ["one", "times"] ["one", "times"] (defScope s_move_often) :=
  ⟨rfl, rfl, rfl, by decide +kernel, rfl, by decide +kernel, by decide +kernel⟩
abbrev s_move_order : Stmt := topS 28
theorem sc_move_order : FnScope ["one"] ["one"] (defScope s_move_order) :=
  ⟨rfl, rfl, rfl, by decide +kernel, rfl, by decide +kernel, by decide +kernel⟩
abbrev s_move_gap : Stmt := topS 29
theorem sc_move_gap : FnScope ["one", "other"] ["one", "other"] (defScope s_move_gap) :=
  ⟨rfl, rfl, rfl, by decide +kernel, rfl, by decide +kernel, by decide +kernel⟩
abbrev s_move_walked : Stmt := topS 30
theorem sc_move_walked : FnScope ["walk", "found", "sign"] ["walk"] (defScope s_move_walked) :=
  ⟨rfl, rfl, rfl, by decide +kernel, rfl, by decide +kernel, by decide +kernel⟩
abbrev s_l_reel : Stmt := topS 32
theorem sc_l_reel : FnScope ["_law_script", "_law_turn", "_law_own", "_law_mixed", "_law_entry"] ["_law_script", "_law_turn"] (defScope s_l_reel) :=
  ⟨rfl, rfl, rfl, by decide +kernel, rfl, by decide +kernel, by decide +kernel⟩
abbrev s_l_wind : Stmt := topS 33
theorem sc_l_wind : FnScope ["_law_reel_here", "_law_many", "_law_figure"] ["_law_reel_here", "_law_many"] (defScope s_l_wind) :=
  ⟨rfl, rfl, rfl, by decide +kernel, rfl, by decide +kernel, by decide +kernel⟩
abbrev s_l_one_of : Stmt := topS 34
theorem sc_l_one_of : FnScope ["_law_reel_here", "_law_menu"] ["_law_reel_here", "_law_menu"] (defScope s_l_one_of) :=
  ⟨rfl, rfl, rfl, by decide +kernel, rfl, by decide +kernel, by decide +kernel⟩
abbrev s_l_trip : Stmt := topS 35
theorem sc_l_trip : FnScope ["_law_reel_here", "_law_size", "_law_spot"] ["_law_reel_here", "_law_size"] (defScope s_l_trip) :=
  ⟨rfl, rfl, rfl, by decide +kernel, rfl, by decide +kernel, by decide +kernel⟩
abbrev s_l_move : Stmt := topS 36
theorem sc_l_move : FnScope ["_law_trip_here"] ["_law_trip_here"] (defScope s_l_move) :=
  ⟨rfl, rfl, rfl, by decide +kernel, rfl, by decide +kernel, by decide +kernel⟩
abbrev s_l_three : Stmt := topS 37
theorem sc_l_three : FnScope ["_law_made"] ["_law_made"] (defScope s_l_three) :=
  ⟨rfl, rfl, rfl, by decide +kernel, rfl, by decide +kernel, by decide +kernel⟩
abbrev s_l_square : Stmt := topS 38
theorem sc_l_square : FnScope ["_law_trip_here"] ["_law_trip_here"] (defScope s_l_square) :=
  ⟨rfl, rfl, rfl, by decide +kernel, rfl, by decide +kernel, by decide +kernel⟩
abbrev s_l_times : Stmt := topS 39
theorem sc_l_times : FnScope ["_law_left", "_law_right_here", "_law_found", "_law_row", "_law_j", "_law_k"] ["_law_left", "_law_right_here"] (defScope s_l_times) :=
  ⟨rfl, rfl, rfl, by decide +kernel, rfl, by decide +kernel, by decide +kernel⟩
abbrev s_l_all : Stmt := topS 40
theorem sc_l_all : FnScope ["_law_squares", "_law_found", "_law_square_here"] ["_law_squares"] (defScope s_l_all) :=
  ⟨rfl, rfl, rfl, by decide +kernel, rfl, by decide +kernel, by decide +kernel⟩
abbrev s_l_pair_right : Stmt := topS 41
theorem sc_l_pair_right : FnScope ["_law_first", "_law_last", "_law_made", "_law_mate", "_law_near", "_law_far", "_law_told", "_law_back", "_law_gone", "_law_less", "_law_lost", "_law_due", "_law_each"] ["_law_first", "_law_last"] (defScope s_l_pair_right) :=
  ⟨rfl, rfl, rfl, by decide +kernel, rfl, by decide +kernel, by decide +kernel⟩
abbrev s_l_often_right : Stmt := topS 42
theorem sc_l_often_right : FnScope ["_law_reel_here", "_law_trip_here", "_law_made", "_law_near", "_law_back", "_law_count", "_law_due", "_law_left", "_law_right_here"] ["_law_reel_here", "_law_trip_here"] (defScope s_l_often_right) :=
  ⟨rfl, rfl, rfl, by decide +kernel, rfl, by decide +kernel, by decide +kernel⟩
abbrev s_l_walks_right : Stmt := topS 43
theorem sc_l_walks_right : FnScope ["_law_reel_here", "_law_lines", "_law_made", "_law_mate", "_law_back", "_law_side", "_law_spot", "_law_sign"] ["_law_reel_here"] (defScope s_l_walks_right) :=
  ⟨rfl, rfl, rfl, by decide +kernel, rfl, by decide +kernel, by decide +kernel⟩
abbrev s_l_right : Stmt := topS 44
theorem sc_l_right : FnScope ["_law_reel_here", "_law_turn", "_law_size", "_law_first", "_law_mid", "_law_last", "_law_by", "_law_left", "_law_side", "_law_number"] ["_law_reel_here"] (defScope s_l_right) :=
  ⟨rfl, rfl, rfl, by decide +kernel, rfl, by decide +kernel, by decide +kernel⟩
abbrev s_law : Stmt := topS 45
theorem sc_law : FnScope ["_law_script", "_law_turn"] ["_law_script"] (defScope s_law) :=
  ⟨rfl, rfl, rfl, by decide +kernel, rfl, by decide +kernel, by decide +kernel⟩
structure Ad where
  f_is_integer : Addr
  d_is_integer : FuncData
  f_check_whole : Addr
  d_check_whole : FuncData
  f_Move_init : Addr
  d_Move_init : FuncData
  f_Move_east : Addr
  d_Move_east : FuncData
  f_Move_north : Addr
  d_Move_north : FuncData
  f_Move_area : Addr
  d_Move_area : FuncData
  f_Move_str : Addr
  d_Move_str : FuncData
  f_Move_eq : Addr
  d_Move_eq : FuncData
  f_check_move : Addr
  d_check_move : FuncData
  f_check_moves : Addr
  d_check_moves : FuncData
  f_triple : Addr
  d_triple : FuncData
  f_put_triples : Addr
  d_put_triples : FuncData
  f_back_triple : Addr
  d_back_triple : FuncData
  f_many_triples : Addr
  d_many_triples : FuncData
  f_gap_of : Addr
  d_gap_of : FuncData
  f_made_move : Addr
  d_made_move : FuncData
  f_move_then : Addr
  d_move_then : FuncData
  f_move_undone : Addr
  d_move_undone : FuncData
  f_move_often : Addr
  d_move_often : FuncData
  f_move_order : Addr
  d_move_order : FuncData
  f_move_gap : Addr
  d_move_gap : FuncData
  f_move_walked : Addr
  d_move_walked : FuncData
  f_l_reel : Addr
  d_l_reel : FuncData
  f_l_wind : Addr
  d_l_wind : FuncData
  f_l_one_of : Addr
  d_l_one_of : FuncData
  f_l_trip : Addr
  d_l_trip : FuncData
  f_l_move : Addr
  d_l_move : FuncData
  f_l_three : Addr
  d_l_three : FuncData
  f_l_square : Addr
  d_l_square : FuncData
  f_l_times : Addr
  d_l_times : FuncData
  f_l_all : Addr
  d_l_all : FuncData
  f_l_pair_right : Addr
  d_l_pair_right : FuncData
  f_l_often_right : Addr
  d_l_often_right : FuncData
  f_l_walks_right : Addr
  d_l_walks_right : FuncData
  f_l_right : Addr
  d_l_right : FuncData
  f_law : Addr
  d_law : FuncData
  C_Move : Addr
  p_Move_east : Addr
  p_Move_north : Addr
  p_Move_area : Addr
  A_PLAIN : Addr
  A_STEPS : Addr
  A_ste : Addr
  A_stn : Addr
  A_stw : Addr
  A_sts : Addr
structure Txt (K : PySem.W.Frag) (w : World) (mg : Str → Option Value) (a : Ad) : Prop where
  F_is_integer : Fun K "is_integer" "is_integer" s_is_integer a.f_is_integer a.d_is_integer
  b_is_integer : Binds K a.d_is_integer ["value"] []
  g_is_integer : mg "is_integer" = some (.ref a.f_is_integer)
  F_check_whole : Fun K "check_whole" "check_whole" s_check_whole a.f_check_whole a.d_check_whole
  b_check_whole : Binds K a.d_check_whole ["value"] []
  g_check_whole : mg "check_whole" = some (.ref a.f_check_whole)
  F_Move_init : Fun K "__init__" "Move.__init__" s_Move_init a.f_Move_init a.d_Move_init
  b_Move_init : Binds K a.d_Move_init ["self", "east", "north", "area"] []
  F_Move_east : Fun K "east" "Move.east" s_Move_east a.f_Move_east a.d_Move_east
  b_Move_east : Binds K a.d_Move_east ["self"] []
  F_Move_north : Fun K "north" "Move.north" s_Move_north a.f_Move_north a.d_Move_north
  b_Move_north : Binds K a.d_Move_north ["self"] []
  F_Move_area : Fun K "area" "Move.area" s_Move_area a.f_Move_area a.d_Move_area
  b_Move_area : Binds K a.d_Move_area ["self"] []
  F_Move_str : Fun K "__str__" "Move.__str__" s_Move_str a.f_Move_str a.d_Move_str
  b_Move_str : Binds K a.d_Move_str ["self"] []
  F_Move_eq : Fun K "__eq__" "Move.__eq__" s_Move_eq a.f_Move_eq a.d_Move_eq
  b_Move_eq : Binds K a.d_Move_eq ["self", "other"] []
  F_check_move : Fun K "check_move" "check_move" s_check_move a.f_check_move a.d_check_move
  b_check_move : Binds K a.d_check_move ["value"] []
  g_check_move : mg "check_move" = some (.ref a.f_check_move)
  F_check_moves : Fun K "check_moves" "check_moves" s_check_moves a.f_check_moves a.d_check_moves
  b_check_moves : Binds K a.d_check_moves ["one", "other"] []
  g_check_moves : mg "check_moves" = some (.ref a.f_check_moves)
  F_triple : Fun K "triple" "triple" s_triple a.f_triple a.d_triple
  b_triple : Binds K a.d_triple ["one"] []
  g_triple : mg "triple" = some (.ref a.f_triple)
  F_put_triples : Fun K "put_triples" "put_triples" s_put_triples a.f_put_triples a.d_put_triples
  b_put_triples : Binds K a.d_put_triples ["one", "other"] []
  g_put_triples : mg "put_triples" = some (.ref a.f_put_triples)
  F_back_triple : Fun K "back_triple" "back_triple" s_back_triple a.f_back_triple a.d_back_triple
  b_back_triple : Binds K a.d_back_triple ["one"] []
  g_back_triple : mg "back_triple" = some (.ref a.f_back_triple)
  F_many_triples : Fun K "many_triples" "many_triples" s_many_triples a.f_many_triples a.d_many_triples
  b_many_triples : Binds K a.d_many_triples ["one", "times"] []
  g_many_triples : mg "many_triples" = some (.ref a.f_many_triples)
  F_gap_of : Fun K "gap_of" "gap_of" s_gap_of a.f_gap_of a.d_gap_of
  b_gap_of : Binds K a.d_gap_of ["one", "other"] []
  g_gap_of : mg "gap_of" = some (.ref a.f_gap_of)
  F_made_move : Fun K "made_move" "made_move" s_made_move a.f_made_move a.d_made_move
  b_made_move : Binds K a.d_made_move ["numbers"] []
  g_made_move : mg "made_move" = some (.ref a.f_made_move)
  F_move_then : Fun K "move_then" "move_then" s_move_then a.f_move_then a.d_move_then
  b_move_then : Binds K a.d_move_then ["one", "other"] []
  g_move_then : mg "move_then" = some (.ref a.f_move_then)
  F_move_undone : Fun K "move_undone" "move_undone" s_move_undone a.f_move_undone a.d_move_undone
  b_move_undone : Binds K a.d_move_undone ["one"] []
  g_move_undone : mg "move_undone" = some (.ref a.f_move_undone)
  F_move_often : Fun K "move_often" "move_often" s_move_often a.f_move_often a.d_move_often
  b_move_often : Binds K a.d_move_often ["one", "times"] []
  g_move_often : mg "move_often" = some (.ref a.f_move_often)
  F_move_order : Fun K "move_order" "move_order" s_move_order a.f_move_order a.d_move_order
  b_move_order : Binds K a.d_move_order ["one"] []
  g_move_order : mg "move_order" = some (.ref a.f_move_order)
  F_move_gap : Fun K "move_gap" "move_gap" s_move_gap a.f_move_gap a.d_move_gap
  b_move_gap : Binds K a.d_move_gap ["one", "other"] []
  g_move_gap : mg "move_gap" = some (.ref a.f_move_gap)
  F_move_walked : Fun K "move_walked" "move_walked" s_move_walked a.f_move_walked a.d_move_walked
  b_move_walked : Binds K a.d_move_walked ["walk"] []
  g_move_walked : mg "move_walked" = some (.ref a.f_move_walked)
  F_l_reel : Fun K "_law_reel" "_law_reel" s_l_reel a.f_l_reel a.d_l_reel
  b_l_reel : Binds K a.d_l_reel ["_law_script", "_law_turn"] []
  g_l_reel : mg "_law_reel" = some (.ref a.f_l_reel)
  F_l_wind : Fun K "_law_wind" "_law_wind" s_l_wind a.f_l_wind a.d_l_wind
  b_l_wind : Binds K a.d_l_wind ["_law_reel_here", "_law_many"] []
  g_l_wind : mg "_law_wind" = some (.ref a.f_l_wind)
  F_l_one_of : Fun K "_law_one_of" "_law_one_of" s_l_one_of a.f_l_one_of a.d_l_one_of
  b_l_one_of : Binds K a.d_l_one_of ["_law_reel_here", "_law_menu"] []
  g_l_one_of : mg "_law_one_of" = some (.ref a.f_l_one_of)
  F_l_trip : Fun K "_law_trip" "_law_trip" s_l_trip a.f_l_trip a.d_l_trip
  b_l_trip : Binds K a.d_l_trip ["_law_reel_here", "_law_size"] []
  g_l_trip : mg "_law_trip" = some (.ref a.f_l_trip)
  F_l_move : Fun K "_law_move" "_law_move" s_l_move a.f_l_move a.d_l_move
  b_l_move : Binds K a.d_l_move ["_law_trip_here"] []
  g_l_move : mg "_law_move" = some (.ref a.f_l_move)
  F_l_three : Fun K "_law_three" "_law_three" s_l_three a.f_l_three a.d_l_three
  b_l_three : Binds K a.d_l_three ["_law_made"] []
  g_l_three : mg "_law_three" = some (.ref a.f_l_three)
  F_l_square : Fun K "_law_square" "_law_square" s_l_square a.f_l_square a.d_l_square
  b_l_square : Binds K a.d_l_square ["_law_trip_here"] []
  g_l_square : mg "_law_square" = some (.ref a.f_l_square)
  F_l_times : Fun K "_law_times" "_law_times" s_l_times a.f_l_times a.d_l_times
  b_l_times : Binds K a.d_l_times ["_law_left", "_law_right_here"] []
  g_l_times : mg "_law_times" = some (.ref a.f_l_times)
  F_l_all : Fun K "_law_all" "_law_all" s_l_all a.f_l_all a.d_l_all
  b_l_all : Binds K a.d_l_all ["_law_squares"] []
  g_l_all : mg "_law_all" = some (.ref a.f_l_all)
  F_l_pair_right : Fun K "_law_pair_right" "_law_pair_right" s_l_pair_right a.f_l_pair_right a.d_l_pair_right
  b_l_pair_right : Binds K a.d_l_pair_right ["_law_first", "_law_last"] []
  g_l_pair_right : mg "_law_pair_right" = some (.ref a.f_l_pair_right)
  F_l_often_right : Fun K "_law_often_right" "_law_often_right" s_l_often_right a.f_l_often_right a.d_l_often_right
  b_l_often_right : Binds K a.d_l_often_right ["_law_reel_here", "_law_trip_here"] []
  g_l_often_right : mg "_law_often_right" = some (.ref a.f_l_often_right)
  F_l_walks_right : Fun K "_law_walks_right" "_law_walks_right" s_l_walks_right a.f_l_walks_right a.d_l_walks_right
  b_l_walks_right : Binds K a.d_l_walks_right ["_law_reel_here"] []
  g_l_walks_right : mg "_law_walks_right" = some (.ref a.f_l_walks_right)
  F_l_right : Fun K "_law_right" "_law_right" s_l_right a.f_l_right a.d_l_right
  b_l_right : Binds K a.d_l_right ["_law_reel_here"] []
  g_l_right : mg "_law_right" = some (.ref a.f_l_right)
  F_law : Fun K "law" "law" s_law a.f_law a.d_law
  b_law : Binds K a.d_law ["_law_script"] []
  g_law : mg "law" = some (.ref a.f_law)
  k_move_then : KBinds K a.d_move_then ["one", "other"] ["other", "one"] gRev gRev
  k_move_gap : KBinds K a.d_move_gap ["one", "other"] ["other", "one"] gRev gRev
  k_move_often : KBinds K a.d_move_often ["one", "times"] ["times", "one"] gRev gRev
  k_move_undone : KBinds K a.d_move_undone ["one"] ["one"] gRev gRev
  k_move_order : KBinds K a.d_move_order ["one"] ["one"] gRev gRev
  g_Move : mg "Move" = some (.ref a.C_Move)
  o_Move : OwnC K a.C_Move
  m_Move : Mk K a.C_Move a.f_Move_init
  n_Move_own_east : NoAttr K a.C_Move "own_east"
  n_Move_own_north : NoAttr K a.C_Move "own_north"
  n_Move_own_area : NoAttr K a.C_Move "own_area"
  p_Move_east : PropOf K a.C_Move "east" a.p_Move_east a.f_Move_east
  p_Move_north : PropOf K a.C_Move "north" a.p_Move_north a.f_Move_north
  p_Move_area : PropOf K a.C_Move "area" a.p_Move_area a.f_Move_area
  s_Move : PySem.W.findIn K (.ref a.C_Move) "__str__" = some (some (.ref a.f_Move_str))
  sf_Move : PySem.W.isFn K (.ref a.f_Move_str) = true
  e_Move : EqC K a.C_Move a.f_Move_eq
  z_abs : mg "abs" = none
  z_all : mg "all" = none
  z_bool : mg "bool" = none
  z_divmod : mg "divmod" = none
  z_int : mg "int" = none
  z_isinstance : mg "isinstance" = none
  z_len : mg "len" = none
  z_range : mg "range" = none
  z_repr : mg "repr" = none
  z_str : mg "str" = none
  z_sum : mg "sum" = none
  z_tuple : mg "tuple" = none
  g_MOST_STEPS : ∃ t, mg "MOST_STEPS" = some (.int 4000 t)
  g_PLAIN : mg "PLAIN" = some (.ref a.A_PLAIN)
  t_PLAIN : ∀ H : Hp, SqT K H a.A_PLAIN [.int 0, .int 0, .int 0]
  g_STEPS : mg "STEPS" = some (.ref a.A_STEPS)
  d_STEPS : ∃ es n, KDict K w a.A_STEPS es n
  s_e : PySem.W.nsIn K a.A_STEPS "e" = some (some (.ref a.A_ste))
  ts_e : ∀ H : Hp, SqT K H a.A_ste [.int (1), .int (0), .int (0)]
  s_n : PySem.W.nsIn K a.A_STEPS "n" = some (some (.ref a.A_stn))
  ts_n : ∀ H : Hp, SqT K H a.A_stn [.int (0), .int (1), .int (0)]
  s_w : PySem.W.nsIn K a.A_STEPS "w" = some (some (.ref a.A_stw))
  ts_w : ∀ H : Hp, SqT K H a.A_stw [.int (-1), .int (0), .int (0)]
  s_s : PySem.W.nsIn K a.A_STEPS "s" = some (some (.ref a.A_sts))
  ts_s : ∀ H : Hp, SqT K H a.A_sts [.int (0), .int (-1), .int (0)]

end K63

namespace K63
open PySem PySem.Spec PyProof.Rows L2 Own
section
variable {P : Program} {w : World} {K : PySem.W.Frag} {mg : Str → Option Value} {base : Heap} {a : Ad}
/-! ### moves as three numbers -/
abbrev T3 := Int × Int × Int
def putT (x y : T3) : T3 := (x.1 + y.1, x.2.1 + y.2.1, x.2.2 + y.2.2 + x.1 * y.2.1)
def offT (x : T3) : T3 := (0 - x.1, 0 - x.2.1, x.1 * x.2.1 - x.2.2)
def Sm (t : T3) : Prop := t.1.natAbs < 10 ^ 300 ∧ t.2.1.natAbs < 10 ^ 300 ∧ t.2.2.natAbs < 10 ^ 300
def mvText (t : T3) : Str := (((((Str.empty ++ ("areas " : Str)) ++ (toString t.1 : String)) ++ (" " : Str)) ++ (toString t.2.1 : String)) ++ (" " : Str)) ++ (toString t.2.2 : String)
def Mv (C : Addr) (M : Hp) (x : V) (t : T3) : Prop := ∃ p dx, x = .ref p ∧ M p = some (.ins C dx [("own_east", .int t.1), ("own_north", .int t.2.1), ("own_area", .int t.2.2)])
theorem Mv.mono {C : Addr} {M M1 : Hp} {x : V} {t : T3} (h : Mv C M x t) (e : Same M M1) : Mv C M1 x t := by
  obtain ⟨p, dx, r, h⟩ := h
  exact ⟨p, dx, r, e _ _ h⟩
def TripAt (M : Hp) (x : V) (t : T3) : Prop := ∃ p, x = .ref p ∧ M p = some (.tup [.int t.1, .int t.2.1, .int t.2.2])
theorem TripAt.mono {M M1 : Hp} {x : V} {t : T3} (h : TripAt M x t) (e : Same M M1) : TripAt M1 x t := by
  obtain ⟨p, r, h⟩ := h
  exact ⟨p, r, e _ _ h⟩
def dT (t : T3) : PyData := .tuple [.int t.1, .int t.2.1, .int t.2.2]
theorem TripAt.dp {M : Hp} {x : V} {t : T3} (h : TripAt M x t) : Dp K M x (dT t) := by
  obtain ⟨p, rfl, h⟩ := h
  exact .tup (SqT.of h) (.cons (.int _) (.cons (.int _) (.cons (.int _) .nil)))
theorem eqv_dT (s t : T3) : PyData.eqv (dT s) (dT t) = decide (s = t) := by
  obtain ⟨x, n, k⟩ := s
  obtain ⟨y, m, l⟩ := t
  have e : PyData.eqv (dT (x, n, k)) (dT (y, m, l)) = ((x == y) && ((n == m) && ((k == l) && true))) := rfl
  rw [e]
  by_cases h1 : x = y
  · by_cases h2 : n = m
    · by_cases h3 : k = l
      · subst h1; subst h2; subst h3
        simp
      · simp [h3]
    · simp [h2]
  · simp [h1]
theorem sh_dT (s : T3) : SeqAt.shaped (dT s) = true := rfl
theorem rd_t0 {σ : L2.St} {H : Hp} {x : V} {t : T3} {Q : VK} (h : TripAt H x t) (q : Q (.int t.1) H) :
    tC (V.int 0) σ H fun y H2 => rIxT K x y H2 Q := by
  obtain ⟨p, rfl, h⟩ := h
  exact ⟨p, _, 0, _, rfl, rfl, SqT.of h, rfl, q⟩
theorem rd_t1 {σ : L2.St} {H : Hp} {x : V} {t : T3} {Q : VK} (h : TripAt H x t) (q : Q (.int t.2.1) H) :
    tC (V.int 1) σ H fun y H2 => rIxT K x y H2 Q := by
  obtain ⟨p, rfl, h⟩ := h
  exact ⟨p, _, 1, _, rfl, rfl, SqT.of h, rfl, q⟩
theorem rd_t2 {σ : L2.St} {H : Hp} {x : V} {t : T3} {Q : VK} (h : TripAt H x t) (q : Q (.int t.2.2) H) :
    tC (V.int 2) σ H fun y H2 => rIxT K x y H2 Q := by
  obtain ⟨p, rfl, h⟩ := h
  exact ⟨p, _, 2, _, rfl, rfl, SqT.of h, rfl, q⟩
def NewT (M H : Hp) (t : T3) (Q : VK) : Prop := ∀ r M' H', Gr M H M' H' → TripAt M' r t → Q r H'
theorem trip_next {Q : VK} {H M : Hp} {t : T3} (hM : Same M H) (q : NewT M H t Q) :
    [V.int t.1, V.int t.2.1, V.int t.2.2].length ≤ sizeLine ∧ ∀ p, H p = none → Q (.ref p) (upd H p (.tup [.int t.1, .int t.2.1, .int t.2.2])) :=
  tup_next hM (by show 3 ≤ 1000; decide) fun p M' H' g h => q _ M' H' g ⟨p, rfl, h⟩
/-- is_integer, check_whole, of an int -/
def spIsInt : Sp := sp1 fun x H Q => ∃ i, x = .int i ∧ Q (.bl true) H
theorem ok_is_integer (T : Txt K w mg a) : FnOk P w K mg base CX0 1 a.f_is_integer a.d_is_integer ["value"] spIsInt := by
  refine T.F_is_integer.ok sc_is_integer (len1 rfl) (fun cdv A outer s H vs Q E hr h => ?_)
  obtain ⟨x, rfl, i, rfl, q⟩ := h
  refine ⟨_, (pss_one (ps_ret (pe_and (pe_callB call_isi (by rfl) T.z_isinstance (by decide +kernel) (pa_cons (pv 0) (pa_cons (pe_bltn (v := .ty "int") (by rfl) T.z_int (by decide +kernel) rfl) pa_nil))) (pe_one (pe_not (pe_callB call_isi (by rfl) T.z_isinstance (by decide +kernel) (pa_cons (pv 0) (pa_cons (pe_bltn (v := .ty "bool") (by rfl) T.z_bool (by decide +kernel) rfl) pa_nil)))))))), ?_⟩
  refine ⟨_, rfl, _, _, _, _, true, rfl, .ty _, i_int i, kit_ty (by decide +kernel), true, rfl, iteT ?_⟩
  exact ⟨_, rfl, _, _, _, _, false, rfl, .ty _, i_int i, kit_ty (by decide +kernel), false, rfl, q⟩
def spWhole : Sp := sp1 fun x H Q => ∃ i, x = .int i ∧ Q .non H
theorem ok_check_whole (T : Txt K w mg a) : FnOk P w K mg base CX0 2 a.f_check_whole a.d_check_whole ["value"] spWhole := by
  refine T.F_check_whole.ok sc_check_whole (len1 rfl) (fun cdv A outer s H vs Q E hr h => ?_)
  obtain ⟨x, rfl, i, rfl, q⟩ := h
  exact ⟨_, (pss_one (ps_if (pt_not (pt_val (pe_call (ok_is_integer T) (hr.mono (by decide)) (by rfl) T.g_is_integer T.F_is_integer.kp T.b_is_integer .nil pass0 (pa_cons (pv 0) pa_nil))))
      (pss_one ps_never) pss_nil)), _, rfl, _, rfl, _, rfl, true, rfl, iteF q⟩
/-- Move.__init__ -/
def spMoveInit (C : Addr) : Sp := sp4 fun x y z u H Q => ∃ p dx, ∃ t : T3, x = .ref p ∧ y = .int t.1 ∧ z = .int t.2.1 ∧ u = .int t.2.2 ∧ H p = some (.ins C dx []) ∧
  Q .non (upd H p (.ins C dx [("own_east", .int t.1), ("own_north", .int t.2.1), ("own_area", .int t.2.2)]))
theorem ok_Move_init (T : Txt K w mg a) : FnOk P w K mg base CX0 3 a.f_Move_init a.d_Move_init ["self", "east", "north", "area"] (spMoveInit a.C_Move) := by
  refine T.F_Move_init.ok sc_Move_init (len4 rfl) (fun cdv A outer s H vs Q E hr h => ?_)
  obtain ⟨_, _, _, _, rfl, p, dx, ⟨x, y, z⟩, rfl, rfl, rfl, rfl, hp, q⟩ := h
  refine ⟨_, (pss_cons (ps_expr (pe_call (ok_check_whole T) (hr.mono (by decide)) (by rfl) T.g_check_whole T.F_check_whole.kp T.b_check_whole .nil pass0 (pa_cons (pv 1) pa_nil)))
      (pss_cons (ps_expr (pe_call (ok_check_whole T) (hr.mono (by decide)) (by rfl) T.g_check_whole T.F_check_whole.kp T.b_check_whole .nil pass0 (pa_cons (pv 2) pa_nil)))
      (pss_cons (ps_expr (pe_call (ok_check_whole T) (hr.mono (by decide)) (by rfl) T.g_check_whole T.F_check_whole.kp T.b_check_whole .nil pass0 (pa_cons (pv 3) pa_nil)))
      (pss_cons (ps_fld (pv 0) (pv 1) rfl)
      (pss_cons (ps_fld (pv 0) (pv 2) rfl)
      (pss_one (ps_fld (pv 0) (pv 3) rfl))))))), ?_⟩
  refine ⟨_, rfl, _, rfl, _, rfl, _, rfl, _, rfl, _, rfl, _, rfl, _, rfl, _, rfl, ?_⟩
  refine ⟨_, rfl, _, rfl, p, _, dx, _, rfl, hp, T.o_Move.cl, T.n_Move_own_east, by decide, ?_⟩
  refine ⟨_, rfl, _, rfl, p, _, dx, _, rfl, upd_same, T.o_Move.cl, T.n_Move_own_north, (by show (1 : Nat) < 1000; decide), ?_⟩
  rw [upd_upd]
  refine ⟨_, rfl, _, rfl, p, _, dx, _, rfl, upd_same, T.o_Move.cl, T.n_Move_own_area, (by show (2 : Nat) < 1000; decide), ?_⟩
  rw [upd_upd]
  exact q
/-- a move is made -/
def New3 (C : Addr) (M H : Hp) (t : T3) (Q : VK) : Prop := ∀ r M' H', Gr M H M' H' → Mv C M' r t → Q r H'
theorem mk_move {C : Addr} {M H : Hp} {t : T3} {Q : VK} {E : XK} (hM : Same M H) (q : New3 C M H t Q) :
    ∀ x dx, H x = none → H dx = none → dx ≠ x → spMoveInit C (.ref x :: ([.int t.1, .int t.2.1, .int t.2.2] ++ [])) (upd (upd H dx (.own x)) x (.ins C dx [])) (fun v H2 => v = .non ∧ Q (.ref x) H2) E := by
  intro x dx hx hd ne
  refine ⟨_, _, _, _, rfl, x, dx, t, rfl, rfl, rfl, rfl, upd_same, rfl, ?_⟩
  rw [upd_upd]
  exact q _ _ _ (gr_ins hM hx hd ne) ⟨x, dx, rfl, upd_same⟩
theorem mv_of {C : Addr} {M H H' : Hp} {x dx : Addr} {t : T3} (e : upd (upd H dx (.own x)) x (.ins C dx [("own_east", .int t.1), ("own_north", .int t.2.1), ("own_area", .int t.2.2)]) = H') (hM : Same M H) (hx : H x = none) (hd : H dx = none) (ne : dx ≠ x) :
    ∃ M', Gr M H M' H' ∧ Mv C M' (.ref x) t := ⟨_, e ▸ gr_ins hM hx hd ne, x, dx, rfl, upd_same⟩
/-- the properties -/
def spEast (C : Addr) : Sp := sp1 fun x H Q => ∃ t, Mv C H x t ∧ Q (.int t.1) H
def spNorth (C : Addr) : Sp := sp1 fun x H Q => ∃ t, Mv C H x t ∧ Q (.int t.2.1) H
def spArea (C : Addr) : Sp := sp1 fun x H Q => ∃ t, Mv C H x t ∧ Q (.int t.2.2) H
theorem ok_Move_east (T : Txt K w mg a) : FnOk P w K mg base CX0 1 a.f_Move_east a.d_Move_east ["self"] (spEast a.C_Move) := by
  refine T.F_Move_east.ok sc_Move_east (len1 rfl) (fun cdv A outer s H vs Q E hr h => ?_)
  obtain ⟨_, rfl, t, ⟨p, dx, rfl, hp⟩, q⟩ := h
  exact ⟨_, (pss_one (ps_ret (pe_fld (pv 0) rfl))), ⟨_, rfl, p, _, dx, _, _, rfl, hp, T.o_Move.cl, T.n_Move_own_east, rfl, q⟩⟩
theorem ok_Move_north (T : Txt K w mg a) : FnOk P w K mg base CX0 1 a.f_Move_north a.d_Move_north ["self"] (spNorth a.C_Move) := by
  refine T.F_Move_north.ok sc_Move_north (len1 rfl) (fun cdv A outer s H vs Q E hr h => ?_)
  obtain ⟨_, rfl, t, ⟨p, dx, rfl, hp⟩, q⟩ := h
  exact ⟨_, (pss_one (ps_ret (pe_fld (pv 0) rfl))), ⟨_, rfl, p, _, dx, _, _, rfl, hp, T.o_Move.cl, T.n_Move_own_north, rfl, q⟩⟩
theorem ok_Move_area (T : Txt K w mg a) : FnOk P w K mg base CX0 1 a.f_Move_area a.d_Move_area ["self"] (spArea a.C_Move) := by
  refine T.F_Move_area.ok sc_Move_area (len1 rfl) (fun cdv A outer s H vs Q E hr h => ?_)
  obtain ⟨_, rfl, t, ⟨p, dx, rfl, hp⟩, q⟩ := h
  exact ⟨_, (pss_one (ps_ret (pe_fld (pv 0) rfl))), ⟨_, rfl, p, _, dx, _, _, rfl, hp, T.o_Move.cl, T.n_Move_own_area, rfl, q⟩⟩
theorem rd_east {C : Addr} {H : Hp} {x : V} {t : T3} {Q : VK} {E : XK} (h : Mv C H x t) (q : Q (.int t.1) H) :
    ∃ p dx fs, x = .ref p ∧ H p = some (.ins C dx fs) ∧ spEast C (.ref p :: []) H Q E := by
  obtain ⟨p, dx, rfl, hp⟩ := h
  exact ⟨p, dx, _, rfl, hp, _, rfl, t, ⟨p, dx, rfl, hp⟩, q⟩
theorem rd_north {C : Addr} {H : Hp} {x : V} {t : T3} {Q : VK} {E : XK} (h : Mv C H x t) (q : Q (.int t.2.1) H) :
    ∃ p dx fs, x = .ref p ∧ H p = some (.ins C dx fs) ∧ spNorth C (.ref p :: []) H Q E := by
  obtain ⟨p, dx, rfl, hp⟩ := h
  exact ⟨p, dx, _, rfl, hp, _, rfl, t, ⟨p, dx, rfl, hp⟩, q⟩
theorem rd_area {C : Addr} {H : Hp} {x : V} {t : T3} {Q : VK} {E : XK} (h : Mv C H x t) (q : Q (.int t.2.2) H) :
    ∃ p dx fs, x = .ref p ∧ H p = some (.ins C dx fs) ∧ spArea C (.ref p :: []) H Q E := by
  obtain ⟨p, dx, rfl, hp⟩ := h
  exact ⟨p, dx, _, rfl, hp, _, rfl, t, ⟨p, dx, rfl, hp⟩, q⟩
/-- the text -/
def spMoveStr (C : Addr) : Sp := sp1 fun x H Q => ∃ t, Mv C H x t ∧ Sm t ∧ Q (.str (mvText t)) H
theorem ok_Move_str (T : Txt K w mg a) : FnOk P w K mg base CX0 1 a.f_Move_str a.d_Move_str ["self"] (spMoveStr a.C_Move) := by
  refine T.F_Move_str.ok sc_Move_str (len1 rfl) (fun cdv A outer s H vs Q E hr h => ?_)
  obtain ⟨_, rfl, t, ⟨p, dx, rfl, hp⟩, ⟨b1, b2, b3⟩, q⟩ := h
  refine ⟨_, (pss_one (ps_ret (pe_joined (.cons pe_str (.cons (pe_fmt (pe_fld (pv 0) rfl)) (.cons pe_str (.cons (pe_fmt (pe_fld (pv 0) rfl)) (.cons pe_str (.cons (pe_fmt (pe_fld (pv 0) rfl)) .nil))))))))), ?_⟩
  have l1 := txt_len b1
  have l2 := txt_len b2
  have l3 := txt_len b3
  have l0 : Str.empty.length = 0 := by decide
  have l4 : ("areas " : Str).length = 6 := by decide
  have l5 : (" " : Str).length = 1 := by decide
  refine ⟨_, rfl, by decide, _, rfl, p, _, dx, _, _, rfl, hp, T.o_Move.cl, T.n_Move_own_east, rfl, .inr ⟨t.1, rfl, log_lt b1, _, rfl, ?_, ?_⟩⟩
  · simp only [strLen_append, l0, l4, sizeLine_eq]; omega
  refine ⟨_, rfl, ?_, _, rfl, p, _, dx, _, _, rfl, hp, T.o_Move.cl, T.n_Move_own_north, rfl, .inr ⟨t.2.1, rfl, log_lt b2, _, rfl, ?_, ?_⟩⟩
  · simp only [strLen_append, l0, l4, l5, sizeLine_eq]; omega
  · simp only [strLen_append, l0, l4, l5, sizeLine_eq]; omega
  refine ⟨_, rfl, ?_, _, rfl, p, _, dx, _, _, rfl, hp, T.o_Move.cl, T.n_Move_own_area, rfl, .inr ⟨t.2.2, rfl, log_lt b3, _, rfl, ?_, ?_⟩⟩
  · simp only [strLen_append, l0, l4, l5, sizeLine_eq]; omega
  · simp only [strLen_append, l0, l4, l5, sizeLine_eq]; omega
  exact q
/-- == of two moves -/
theorem mvText_inj {s t : T3} (h : mvText s = mvText t) : s = t := by
  have e := congrArg (fun x : Str => x.cps.toList) h
  simp only [mvText, toList_app, tl_int] at e
  have sp : (" " : Str).cps.toList = [32] := by decide +kernel
  simp only [sp, List.append_assoc, List.append_cancel_left_eq, List.cons_append, List.nil_append] at e
  have no : ∀ i : Int, (32 : Nat) ∉ intL i := by
    intro i h
    unfold intL at h
    split at h
    · rcases List.mem_cons.mp h with h | h
      · cases h
      · exact TL.numL_free (.inl (by decide)) h
    · exact TL.numL_free (.inl (by decide)) h
  have cut : ∀ (x y u v : List Nat), 32 ∉ x → 32 ∉ y → x ++ 32 :: u = y ++ 32 :: v → x = y ∧ u = v := by
    intro x
    induction x with
    | nil =>
      intro y u v _ hy e
      cases y with
      | nil => injection e with _ e; exact ⟨rfl, e⟩
      | cons b y => injection e with e1 _; subst e1; exact absurd (List.Mem.head _) hy
    | cons b x ih =>
      intro y u v hx hy e
      cases y with
      | nil => injection e with e1 _; subst e1; exact absurd (List.Mem.head _) hx
      | cons c y =>
        injection e with e1 e2
        subst e1
        have z := ih y u v (fun h => hx (List.Mem.tail _ h)) (fun h => hy (List.Mem.tail _ h)) e2
        exact ⟨by rw [z.1], z.2⟩
  obtain ⟨e1, e2⟩ := cut _ _ _ _ (no _) (no _) e
  obtain ⟨e3, e4⟩ := cut _ _ _ _ (no _) (no _) e2
  obtain ⟨x, y, z⟩ := s
  obtain ⟨x', y', z'⟩ := t
  have f1 := intL_inj e1
  have f2 := intL_inj e3
  have f3 := intL_inj e4
  simp only at f1 f2 f3
  subst f1; subst f2; subst f3
  rfl
def spMoveEq (C : Addr) : Sp := sp2 fun x y H Q => ∃ s t, Mv C H x s ∧ Mv C H y t ∧ Sm s ∧ Sm t ∧ Q (.bl (decide (s = t))) H
theorem ok_Move_eq (T : Txt K w mg a) : FnOk P w K mg base CX0 4 a.f_Move_eq a.d_Move_eq ["self", "other"] (spMoveEq a.C_Move) := by
  refine T.F_Move_eq.ok sc_Move_eq (len2 rfl) (fun cdv A outer s H vs Q E hr h => ?_)
  obtain ⟨_, _, rfl, s, t, ⟨p, dx, rfl, hp⟩, ⟨p2, dx2, rfl, hp2⟩, hb, hb2, q⟩ := h
  refine ⟨_, (pss_one (ps_ret (pe_and (pe_callB call_isi (by rfl) T.z_isinstance (by decide +kernel) (pa_cons (pv 1) (pa_cons (pe_glob (v := .ref a.C_Move) (by rfl) T.g_Move rfl) pa_nil))) (pe_one (pe_cmpR op_eq (pe_callTy (call_strOwn T.s_Move T.sf_Move (ok_Move_str T) (hr.mono (by decide)) T.b_Move_str pass0) (by rfl) T.z_str (by decide +kernel) (pa_cons (pv 0) pa_nil)) (pe_callTy (call_strOwn T.s_Move T.sf_Move (ok_Move_str T) (hr.mono (by decide)) T.b_Move_str pass0) (by rfl) T.z_str (by decide +kernel) (pa_cons (pv 1) pa_nil)) (nomark _)))))), ?_⟩
  have z : decide (V.str (mvText s) = V.str (mvText t)) = decide (s = t) := by
    by_cases h : s = t
    · subst h
      rw [decide_eq_true rfl, decide_eq_true rfl]
    · rw [decide_eq_false h, decide_eq_false]
      intro e
      exact h (mvText_inj (V.str.inj e))
  rw [← z] at q
  refine ⟨_, rfl, _, _, _, _, true, rfl, .own _, T.o_Move.ty hp2, kit_self, true, rfl, iteT ?_⟩
  refine ⟨_, rfl, p, dx, _, rfl, hp, _, rfl, s, ⟨p, dx, rfl, hp⟩, hb, ⟨_, rfl⟩, ?_⟩
  exact ⟨_, rfl, p2, dx2, _, rfl, hp2, _, rfl, t, ⟨p2, dx2, rfl, hp2⟩, hb2, ⟨_, rfl⟩, rfl, q⟩
theorem ne_move {C : Addr} {H : Hp} {x y : V} {s t : T3} {Q : VK} (c : OwnC K C) (h1 : Mv C H x s) (h2 : Mv C H y t) (e : s = t) (hb : Sm s) (q : Q (.bl false) H) :
    rNeOwn K C (spMoveEq C) E0 x y H Q := by
  subst e
  obtain ⟨p, dx, rfl, hp⟩ := h1
  obtain ⟨p2, dx2, rfl, hp2⟩ := h2
  refine ⟨p, dx, _, rfl, hp, c.rgt hp2, _, _, rfl, s, s, ⟨p, dx, rfl, hp⟩, ⟨p2, dx2, rfl, hp2⟩, hb, hb, true, ?_, q⟩
  rw [decide_eq_true rfl]
theorem eq_move {C : Addr} {H : Hp} {x y : V} {s t : T3} {Q : VK} (c : OwnC K C) (h1 : Mv C H x s) (h2 : Mv C H y t) (e : s = t) (hb : Sm s) (q : Q (.bl true) H) :
    rEqOwn K C (spMoveEq C) E0 x y H Q := by
  subst e
  obtain ⟨p, dx, rfl, hp⟩ := h1
  obtain ⟨p2, dx2, rfl, hp2⟩ := h2
  refine ⟨p, dx, _, rfl, hp, c.rgt hp2, _, _, rfl, s, s, ⟨p, dx, rfl, hp⟩, ⟨p2, dx2, rfl, hp2⟩, hb, hb, true, ?_, q⟩
  rw [decide_eq_true rfl]
/-- check_move, check_moves, triple, made_move -/
def spCheck (C : Addr) : Sp := sp1 fun x H Q => ∃ t, Mv C H x t ∧ Q .non H
theorem ok_check_move (T : Txt K w mg a) : FnOk P w K mg base CX0 1 a.f_check_move a.d_check_move ["value"] (spCheck a.C_Move) := by
  refine T.F_check_move.ok sc_check_move (len1 rfl) (fun cdv A outer s H vs Q E hr h => ?_)
  obtain ⟨_, rfl, t, ⟨p, dx, rfl, hp⟩, q⟩ := h
  exact ⟨_, (pss_one (ps_if (pt_not (pt_val (pe_callB call_isi (by rfl) T.z_isinstance (by decide +kernel) (pa_cons (pv 0) (pa_cons (pe_glob (v := .ref a.C_Move) (by rfl) T.g_Move rfl) pa_nil)))))
      (pss_one ps_never) pss_nil)), _, rfl, _, _, _, _, true, rfl, .own _, T.o_Move.ty hp, kit_self, true, rfl, iteF q⟩
def spChecks (C : Addr) : Sp := sp2 fun x y H Q => ∃ s t, Mv C H x s ∧ Mv C H y t ∧ Q .non H
theorem ok_check_moves (T : Txt K w mg a) : FnOk P w K mg base CX0 2 a.f_check_moves a.d_check_moves ["one", "other"] (spChecks a.C_Move) := by
  refine T.F_check_moves.ok sc_check_moves (len2 rfl) (fun cdv A outer s H vs Q E hr h => ?_)
  obtain ⟨_, _, rfl, s, t, h1, h2, q⟩ := h
  exact ⟨_, (pss_cons (ps_expr (pe_call (ok_check_move T) (hr.mono (by decide)) (by rfl) T.g_check_move T.F_check_move.kp T.b_check_move .nil pass0 (pa_cons (pv 0) pa_nil)))
      (pss_one (ps_expr (pe_call (ok_check_move T) (hr.mono (by decide)) (by rfl) T.g_check_move T.F_check_move.kp T.b_check_move .nil pass0 (pa_cons (pv 1) pa_nil))))), _, rfl, _, rfl, s, h1, _, rfl, _, rfl, t, h2, q⟩
def spTriple (C : Addr) : Sp := sp1 fun x H Q => ∃ M t, Same M H ∧ Mv C M x t ∧ NewT M H t Q
theorem ok_triple (T : Txt K w mg a) : FnOk P w K mg base CX0 4 a.f_triple a.d_triple ["one"] (spTriple a.C_Move) := by
  refine T.F_triple.ok sc_triple (len1 rfl) (fun cdv A outer s H vs Q E hr h => ?_)
  obtain ⟨_, rfl, M, t, hM, h1, q⟩ := h
  have k1 := h1.mono hM
  exact ⟨_, (pss_one (ps_ret (pe_tup (pa_cons (pe_prop (pv 0) T.o_Move.cl T.p_Move_east (ok_Move_east T) (hr.mono (by decide)) T.b_Move_east .nil pass0 rfl) (pa_cons (pe_prop (pv 0) T.o_Move.cl T.p_Move_north (ok_Move_north T) (hr.mono (by decide)) T.b_Move_north .nil pass0 rfl) (pa_cons (pe_prop (pv 0) T.o_Move.cl T.p_Move_area (ok_Move_area T) (hr.mono (by decide)) T.b_Move_area .nil pass0 rfl) pa_nil)))))), _, rfl, rd_east k1 ⟨_, rfl, rd_north k1 ⟨_, rfl, rd_area k1 (trip_next hM q)⟩⟩⟩
def spMade (C : Addr) : Sp := sp1 fun x H Q => ∃ M t, Same M H ∧ TripAt M x t ∧ New3 C M H t Q
theorem ok_made_move (T : Txt K w mg a) : FnOk P w K mg base CX0 5 a.f_made_move a.d_made_move ["numbers"] (spMade a.C_Move) := by
  refine T.F_made_move.ok sc_made_move (len1 rfl) (fun cdv A outer s H vs Q E hr h => ?_)
  obtain ⟨_, rfl, M, t, hM, h1, q⟩ := h
  have k1 := h1.mono hM
  exact ⟨_, (pss_one (ps_ret (pe_make T.m_Move (ok_Move_init T) (hr.mono (by decide)) (by rfl) T.g_Move T.b_Move_init .nil pass0 (pa_cons (pe_ix ix_tup (pv 0) pe_int (fun _ _ => rfl)) (pa_cons (pe_ix ix_tup (pv 0) pe_int (fun _ _ => rfl)) (pa_cons (pe_ix ix_tup (pv 0) pe_int (fun _ _ => rfl)) pa_nil)))))), _, rfl, rd_t0 k1 ⟨_, rfl, rd_t1 k1 ⟨_, rfl, rd_t2 k1 (mk_move hM q)⟩⟩⟩
theorem ok_l_move (T : Txt K w mg a) : FnOk P w K mg base CX0 5 a.f_l_move a.d_l_move ["_law_trip_here"] (spMade a.C_Move) := by
  refine T.F_l_move.ok sc_l_move (len1 rfl) (fun cdv A outer s H vs Q E hr h => ?_)
  obtain ⟨_, rfl, M, t, hM, h1, q⟩ := h
  have k1 := h1.mono hM
  exact ⟨_, (pss_one (ps_ret (pe_make T.m_Move (ok_Move_init T) (hr.mono (by decide)) (by rfl) T.g_Move T.b_Move_init .nil pass0 (pa_cons (pe_ix ix_tup (pv 0) pe_int (fun _ _ => rfl)) (pa_cons (pe_ix ix_tup (pv 0) pe_int (fun _ _ => rfl)) (pa_cons (pe_ix ix_tup (pv 0) pe_int (fun _ _ => rfl)) pa_nil)))))), _, rfl, rd_t0 k1 ⟨_, rfl, rd_t1 k1 ⟨_, rfl, rd_t2 k1 (mk_move hM q)⟩⟩⟩
theorem ok_l_three (T : Txt K w mg a) : FnOk P w K mg base CX0 4 a.f_l_three a.d_l_three ["_law_made"] (spTriple a.C_Move) := by
  refine T.F_l_three.ok sc_l_three (len1 rfl) (fun cdv A outer s H vs Q E hr h => ?_)
  obtain ⟨_, rfl, M, t, hM, h1, q⟩ := h
  have k1 := h1.mono hM
  exact ⟨_, (pss_one (ps_ret (pe_tup (pa_cons (pe_prop (pv 0) T.o_Move.cl T.p_Move_east (ok_Move_east T) (hr.mono (by decide)) T.b_Move_east .nil pass0 rfl) (pa_cons (pe_prop (pv 0) T.o_Move.cl T.p_Move_north (ok_Move_north T) (hr.mono (by decide)) T.b_Move_north .nil pass0 rfl) (pa_cons (pe_prop (pv 0) T.o_Move.cl T.p_Move_area (ok_Move_area T) (hr.mono (by decide)) T.b_Move_area .nil pass0 rfl) pa_nil)))))), _, rfl, rd_east k1 ⟨_, rfl, rd_north k1 ⟨_, rfl, rd_area k1 (trip_next hM q)⟩⟩⟩
/-- gaps, sums -/
def gapT (s t : T3) : Int := s.1 * t.2.1 - t.1 * s.2.1
def spGap : Sp := sp2 fun x y H Q => ∃ s t, TripAt H x s ∧ TripAt H y t ∧ Sm s ∧ Sm t ∧ Q (.int (gapT s t)) H
theorem ok_gap_of (T : Txt K w mg a) : FnOk P w K mg base CX0 1 a.f_gap_of a.d_gap_of ["one", "other"] spGap := by
  refine T.F_gap_of.ok sc_gap_of (len2 rfl) (fun cdv A outer s H vs Q E hr h => ?_)
  obtain ⟨_, _, rfl, s, t, h1, h2, b1, b2, q⟩ := h
  refine ⟨_, (pss_one (ps_ret (pe_op op_sub (pe_op op_mulW (pe_ix ix_tup (pv 0) pe_int (fun _ _ => rfl)) (pe_ix ix_tup (pv 1) pe_int (fun _ _ => rfl))) (pe_op op_mulW (pe_ix ix_tup (pv 1) pe_int (fun _ _ => rfl)) (pe_ix ix_tup (pv 0) pe_int (fun _ _ => rfl)))))), _, rfl, rd_t0 h1 ⟨_, rfl, rd_t1 h2 ⟨_, _, rfl, rfl, big_mul b1.1 b2.2.1, ?_⟩⟩⟩
  exact ⟨_, rfl, rd_t0 h2 ⟨_, rfl, rd_t1 h1 ⟨_, _, rfl, rfl, big_mul b2.1 b1.2.1, _, _, rfl, rfl, q⟩⟩⟩
def spPutT : Sp := sp2 fun x y H Q => ∃ M s t, Same M H ∧ TripAt M x s ∧ TripAt M y t ∧ Sm s ∧ Sm t ∧ NewT M H (putT s t) Q
def spOffT : Sp := sp1 fun x H Q => ∃ M s, Same M H ∧ TripAt M x s ∧ Sm s ∧ NewT M H (offT s) Q
end

end K63

namespace K63
open PySem PySem.Spec PyProof.Rows L2 Own
section
variable {P : Program} {w : World} {K : PySem.W.Frag} {mg : Str → Option Value} {base : Heap} {a : Ad}
/-! ### bounds -/
def B (n : Nat) (t : T3) : Prop := t.1.natAbs ≤ n ∧ t.2.1.natAbs ≤ n ∧ t.2.2.natAbs ≤ n
theorem B.sm {n : Nat} {t : T3} (h : B n t) (k : Nat.ble n (10 ^ 299) = true) : Sm t := by
  have z : n < 10 ^ 300 := Nat.lt_of_le_of_lt (Nat.le_of_ble_eq_true k) (by decide +kernel)
  exact ⟨Nat.lt_of_le_of_lt h.1 z, Nat.lt_of_le_of_lt h.2.1 z, Nat.lt_of_le_of_lt h.2.2 z⟩
theorem B.up {n m : Nat} {t : T3} (h : B n t) (k : Nat.ble n m = true) : B m t := by
  have z := Nat.le_of_ble_eq_true k
  exact ⟨Nat.le_trans h.1 z, Nat.le_trans h.2.1 z, Nat.le_trans h.2.2 z⟩
theorem na_mul {i j : Int} {n m : Nat} (h : i.natAbs ≤ n) (k : j.natAbs ≤ m) : (i * j).natAbs ≤ n * m := by
  rw [Int.natAbs_mul]
  exact Nat.mul_le_mul h k
theorem B.put {n m : Nat} {s t : T3} (h : B n s) (k : B m t) : B (n + m + n * m) (putT s t) := by
  obtain ⟨h1, h2, h3⟩ := h
  obtain ⟨k1, k2, k3⟩ := k
  have z := na_mul h1 k2
  have p : 0 ≤ n * m := Nat.zero_le _
  refine ⟨?_, ?_, ?_⟩ <;> simp only [putT] <;> omega
theorem B.off {n : Nat} {s : T3} (h : B n s) : B (n + n * n) (offT s) := by
  obtain ⟨h1, h2, h3⟩ := h
  have z := na_mul h1 h2
  refine ⟨?_, ?_, ?_⟩ <;> simp only [offT] <;> omega
theorem lt300 {i : Int} {n : Nat} (h : i.natAbs ≤ n) (k : Nat.ble n (10 ^ 299) = true) : i.natAbs < 10 ^ 300 :=
  Nat.lt_of_le_of_lt (Nat.le_trans h (Nat.le_of_ble_eq_true k)) (by decide +kernel)
/-! ### numbers that two share -/
structure Euc (x y : Int) (l r : T3) : Prop where
  el : l.1 = l.2.1 * x + l.2.2 * y
  er : r.1 = r.2.1 * x + r.2.2 * y
  l0 : 0 ≤ l.1
  r0 : 0 ≤ r.1
  dv : ∀ d : Int, d ∣ l.1 → d ∣ r.1 → d ∣ x ∧ d ∣ y
  b1 : l.1 * (r.2.1.natAbs : Int) + r.1 * (l.2.1.natAbs : Int) ≤ y
  b2 : l.1 * (r.2.2.natAbs : Int) + r.1 * (l.2.2.natAbs : Int) ≤ x
  c1 : (l.2.1.natAbs : Int) ≤ y + 1
  c2 : (l.2.2.natAbs : Int) ≤ x + 1
  c3 : (r.2.1.natAbs : Int) ≤ y + 1
  c4 : (r.2.2.natAbs : Int) ≤ x + 1
theorem Euc.start {x y : Int} (hx : 0 ≤ x) (hy : 0 ≤ y) : Euc x y (x, 1, 0) (y, 0, 1) := by
  refine ⟨?_, ?_, hx, hy, fun d h k => ⟨h, k⟩, ?_, ?_, ?_, ?_, ?_, ?_⟩ <;> simp <;> omega
theorem euc_bd {l0 r0 q b l1 r1 : Int} (hq : 0 ≤ q) (hr : 0 ≤ r0) (h : l0 * (r1.natAbs : Int) + r0 * (l1.natAbs : Int) ≤ b) :
    r0 * ((l1 - q * r1).natAbs : Int) + (l0 - q * r0) * (r1.natAbs : Int) ≤ b := by
  have e : ((l1 - q * r1).natAbs : Int) ≤ (l1.natAbs : Int) + q * (r1.natAbs : Int) := by
    have e1 : (l1 - q * r1).natAbs ≤ l1.natAbs + (q * r1).natAbs := by omega
    rw [Int.natAbs_mul] at e1
    have e2 : (q.natAbs : Int) = q := Int.natAbs_of_nonneg hq
    have e3 : ((q.natAbs * r1.natAbs : Nat) : Int) = q * (r1.natAbs : Int) := by
      rw [Int.natCast_mul, e2]
    omega
  have e4 := Int.mul_le_mul_of_nonneg_left e hr
  have e5 : r0 * ((l1.natAbs : Int) + q * (r1.natAbs : Int)) + (l0 - q * r0) * (r1.natAbs : Int) = l0 * (r1.natAbs : Int) + r0 * (l1.natAbs : Int) := by grind
  omega
theorem le_of_mul {r n b m : Int} (hr : 0 < r) (hn : 0 ≤ n) (hm : 0 ≤ m) (h : r * n + m ≤ b) : n ≤ b := by
  have : 1 * n ≤ r * n := Int.mul_le_mul_of_nonneg_right (by omega) hn
  omega
theorem Euc.step {x y : Int} {l r : T3} (h : Euc x y l r) (hr : 0 < r.1) :
    Euc x y r (l.1 - l.1 / r.1 * r.1, l.2.1 - l.1 / r.1 * r.2.1, l.2.2 - l.1 / r.1 * r.2.2) ∧ l.1 - l.1 / r.1 * r.1 < r.1 ∧ 0 ≤ l.1 - l.1 / r.1 * r.1 := by
  have hq : 0 ≤ l.1 / r.1 := Int.ediv_nonneg h.l0 (Int.le_of_lt hr)
  have em : l.1 - l.1 / r.1 * r.1 = l.1 % r.1 := by
    have := Int.mul_ediv_add_emod l.1 r.1
    have : l.1 / r.1 * r.1 = r.1 * (l.1 / r.1) := Int.mul_comm _ _
    omega
  have m0 : 0 ≤ l.1 % r.1 := Int.emod_nonneg _ (by omega)
  have m1 : l.1 % r.1 < r.1 := Int.emod_lt_of_pos _ hr
  have g1 := euc_bd hq (Int.le_of_lt hr) h.b1
  have g2 := euc_bd hq (Int.le_of_lt hr) h.b2
  have mm : 0 ≤ l.1 - l.1 / r.1 * r.1 := by omega
  refine ⟨⟨h.er, ?_, h.r0, by simp only; omega, ?_, g1, g2, h.c3, h.c4, ?_, ?_⟩, by omega, by omega⟩
  · have := h.el
    have := h.er
    simp only
    grind
  · intro d h1 h2
    refine h.dv d ?_ h1
    have : l.1 = (l.1 - l.1 / r.1 * r.1) + l.1 / r.1 * r.1 := by omega
    rw [this]
    exact Int.dvd_add h2 (Int.dvd_trans h1 (Int.dvd_mul_left _ _))
  · have := le_of_mul hr (by omega) (Int.mul_nonneg mm (by omega)) g1
    simp only
    omega
  · have := le_of_mul hr (by omega) (Int.mul_nonneg mm (by omega)) g2
    simp only
    omega
def spShared : Sp := sp2 fun x y H Q => ∃ i j, x = .int i ∧ y = .int j ∧ 0 ≤ j ∧ Q (.bl (decide (j ∣ i))) H
def NewE (x y : Int) (M H : Hp) (Q : VK) : Prop := ∀ r M' H' t, Gr M H M' H' → TripAt M' r t → t.1 = t.2.1 * x + t.2.2 * y → 0 ≤ t.1 → t.1 ∣ x → t.1 ∣ y → (t.2.1.natAbs : Int) ≤ y + 1 → (t.2.2.natAbs : Int) ≤ x + 1 → Q r H'
def spCombined : Sp := sp2 fun x y H Q => ∃ M i j, x = .int i ∧ y = .int j ∧ Same M H ∧ 0 ≤ i ∧ 0 ≤ j ∧ i.natAbs ≤ 10 ^ 200 ∧ j.natAbs ≤ 10 ^ 200 ∧ NewE i j M H Q
/-! ### what lies between -/
def betT (c s : T3) : T3 := putT (putT c s) (offT c)
theorem bet_eq (c s : T3) : betT c s = (s.1, s.2.1, s.2.2 + c.1 * s.2.1 - s.1 * c.2.1) := by
  simp only [betT, putT, offT, Prod.mk.injEq]
  refine ⟨by omega, by omega, by grind⟩
def PairT (M : Hp) (x : V) (i j : Int) : Prop := ∃ p, x = .ref p ∧ M p = some (.tup [.int i, .int j])
theorem PairT.mono {M M1 : Hp} {x : V} {i j : Int} (h : PairT M x i j) (e : Same M M1) : PairT M1 x i j := by
  obtain ⟨p, r, h⟩ := h
  exact ⟨p, r, e _ _ h⟩
theorem PairT.dp {M : Hp} {x : V} {i j : Int} (h : PairT M x i j) : Dp K M x (.tuple [.int i, .int j]) := by
  obtain ⟨p, rfl, h⟩ := h
  exact .tup (SqT.of h) (.cons (.int _) (.cons (.int _) .nil))
theorem eqv_2 (i j k l : Int) : PyData.eqv (.tuple [.int i, .int j]) (.tuple [.int k, .int l]) = decide (i = k ∧ j = l) := by
  have e : PyData.eqv (.tuple [.int i, .int j]) (.tuple [.int k, .int l]) = ((i == k) && ((j == l) && true)) := rfl
  rw [e]
  by_cases h1 : i = k
  · by_cases h2 : j = l
    · simp [h1, h2]
    · simp [h2]
  · simp [h1]
theorem sl2 {M H : Hp} {x : V} {t : T3} {Q : VK} (hM : Same M H) (h : TripAt M x t) (q : ∀ r M' H', Gr M H M' H' → PairT M' r t.1 t.2.1 → Q r H') : rSlT K x none (some 2) H Q := by
  obtain ⟨p, rfl, h⟩ := h
  refine ⟨p, _, rfl, SqT.of (hM _ _ h), (by show ¬ (HT.sIx 3 0 none = 0 ∧ HT.sIx 3 3 (some 2) = 3); decide), fun r hr => ?_⟩
  exact q _ _ _ (gr_new hM hr) ⟨r, rfl, upd_same⟩
/-! ### a move by which two are alike -/
def OptT (M : Hp) (x : V) : Option T3 → Prop
  | none => x = .non
  | some t => TripAt M x t
def OptM (C : Addr) (M : Hp) (x : V) : Option T3 → Prop
  | none => x = .non
  | some t => Mv C M x t
theorem OptM.mono {C : Addr} {M M1 : Hp} {x : V} : ∀ {o : Option T3}, OptM C M x o → Same M M1 → OptM C M1 x o
  | none, h, _ => h
  | some _, h, e => Mv.mono h e
structure Lnk (n : Nat) (s t : T3) (o : Option T3) : Prop where
  yes : ∀ c, o = some c → betT c s = t ∧ B (2 * n * (n + 1)) c
  no : o = none → ∀ c, betT c s ≠ t
def LinkN (n : Nat) (s t : T3) (M H : Hp) (Q : VK) : Prop := ∀ r M' H' o, Gr M H M' H' → OptT M' r o → Lnk n s t o → Q r H'
def spLink : Sp := sp2 fun x y H Q => ∃ M n s t, Same M H ∧ TripAt M x s ∧ TripAt M y t ∧ B n s ∧ B n t ∧ n ≤ 10 ^ 120 ∧ LinkN n s t M H Q
theorem abs_abs (i : Int) : (if i < 0 then -i else i) = (i.natAbs : Int) := by split <;> omega
theorem link_math {x y gap g u v many : Int} (eg : g = u * (y.natAbs : Int) + v * (x.natAbs : Int)) (em : gap = many * g) :
    (if 0 < y then many * u else 0 - many * u) * y - x * (if 0 < x then 0 - many * v else many * v) = gap := by
  have hy : (y.natAbs : Int) = if 0 < y then y else 0 - y := by split <;> omega
  have hx : (x.natAbs : Int) = if 0 < x then x else 0 - x := by split <;> omega
  rw [em, eg, hy, hx]
  split <;> split <;> grind
def cT (x y many u v : Int) : T3 := (if 0 < y then many * u else 0 - many * u, if 0 < x then 0 - many * v else many * v, 0)
/-- roots -/
def triI (m : Int) : Int := m * (m - 1) / 2
def leftT (s : T3) (m : Int) : Int := s.2.2 - triI m * (s.1 / m) * (s.2.1 / m)
def rootT (s : T3) (m : Int) : Option T3 := if s.1 % m ≠ 0 then none else if s.2.1 % m ≠ 0 then none else if leftT s m % m = 0 then some (s.1 / m, s.2.1 / m, leftT s m / m) else none
def OptNewT (M H : Hp) (o : Option T3) (Q : VK) : Prop := ∀ r M' H', Gr M H M' H' → OptT M' r o → Q r H'
def OptNewM (C : Addr) (M H : Hp) (o : Option T3) (Q : VK) : Prop := ∀ r M' H', Gr M H M' H' → OptM C M' r o → Q r H'
def spRootT : Sp := sp2 fun x y H Q => ∃ M s m, Same M H ∧ TripAt M x s ∧ y = .int m ∧ 1 ≤ m ∧ m.natAbs ≤ 10 ^ 30 ∧ B (10 ^ 100) s ∧ OptNewT M H (rootT s m) Q
theorem div_le (i m : Int) (hm : 1 ≤ m) : (i / m).natAbs ≤ i.natAbs := by
  have h1 := Int.natAbs_ediv_le_natAbs i m
  exact h1
theorem opt_non {M : Hp} {r : V} {o : Option T3} (h : OptT M r o) : decide (r = V.non) = o.isNone := by
  cases o with
  | none => rw [show r = .non from h]; rfl
  | some t =>
    obtain ⟨p, rfl, _⟩ := (show TripAt M r t from h)
    rfl
theorem optM_non {C : Addr} {M : Hp} {r : V} {o : Option T3} (h : OptM C M r o) : decide (r = V.non) = o.isNone := by
  cases o with
  | none => rw [show r = .non from h]; rfl
  | some t =>
    obtain ⟨p, dx, rfl, _⟩ := (show Mv C M r t from h)
    rfl
/-- the functions of the interface -/
def spRootM (C : Addr) : Sp := sp2 fun x y H Q => ∃ M s m, Same M H ∧ Mv C M x s ∧ y = .int m ∧ 1 ≤ m ∧ m.natAbs ≤ 10 ^ 30 ∧ B (10 ^ 100) s ∧ OptNewM C M H (rootT s m) Q
def LinkM (C : Addr) (n : Nat) (s t : T3) (M H : Hp) (Q : VK) : Prop := ∀ r M' H' o, Gr M H M' H' → OptM C M' r o → Lnk n s t o → Q r H'
def spLinkM (C : Addr) : Sp := sp2 fun x y H Q => ∃ M n s t, Same M H ∧ Mv C M x s ∧ Mv C M y t ∧ B n s ∧ B n t ∧ n ≤ 10 ^ 120 ∧ LinkM C n s t M H Q
def SayL (s t : T3) (M H : Hp) (Q : VK) : Prop := ∀ M' H' b, Gr M H M' H' → (b = true ↔ ∃ c, betT c s = t) → Q (.bl b) H'
def spIsAlike (C : Addr) : Sp := sp2 fun x y H Q => ∃ M n s t, Same M H ∧ Mv C M x s ∧ Mv C M y t ∧ B n s ∧ B n t ∧ n ≤ 10 ^ 120 ∧ SayL s t M H Q
theorem Lnk.iff {n : Nat} {s t : T3} {o : Option T3} (h : Lnk n s t o) : (!o.isNone) = true ↔ ∃ c, betT c s = t := by
  cases o with
  | none => exact ⟨fun z => absurd z (by decide), fun ⟨c, z⟩ => absurd z (h.no rfl c)⟩
  | some c => exact ⟨fun _ => ⟨c, (h.yes c rfl).1⟩, fun _ => rfl⟩
def spCommute (C : Addr) : Sp := sp2 fun x y H Q => ∃ M s t, Same M H ∧ Mv C M x s ∧ Mv C M y t ∧ Sm s ∧ Sm t ∧ Say M H (decide (putT s t = putT t s)) Q
theorem commute_dec (s t : T3) : decide (V.int (gapT s t) = V.int 0) = decide (putT s t = putT t s) := by
  by_cases h : gapT s t = 0
  · rw [h, decide_eq_true rfl, decide_eq_true]
    simp only [gapT] at h
    simp only [putT, Prod.mk.injEq]
    refine ⟨by omega, by omega, by omega⟩
  · rw [decide_eq_false (fun z => h (V.int.inj z)), decide_eq_false]
    intro z
    apply h
    simp only [putT, Prod.mk.injEq] at z
    simp only [gapT]
    omega
end

end K63

namespace K63
open PySem PySem.Spec PyProof.Rows L2 Own
section
variable {P : Program} {w : World} {K : PySem.W.Frag} {mg : Str → Option Value} {base : Heap} {a : Ad}
/-- the reel is made of the script -/
def spReel (K : PySem.W.Frag) : Sp := sp2 fun x y H Q => ∃ p, ∃ ns : List Int, ∃ t, x = .ref p ∧ y = .int t ∧ SqL K H p (ns.map V.int) ∧ ns.length ≤ 63 ∧ (t = 0 ∨ t = 1) ∧
  ∀ v H' x y, Same H H' → H v = none → H' v = some (.lst [.int x, .int y, .int 1]) → 0 ≤ x → Q (.ref v) H'
theorem ok_l_reel (T : Txt K w mg a) : FnOk P w K mg base CX0 1 a.f_l_reel a.d_l_reel ["_law_script", "_law_turn"] (spReel K) := by
  refine T.F_l_reel.ok sc_l_reel (len2 rfl) (fun cdv A outer s H vs Q E hr h => ?_)
  obtain ⟨_, _, rfl, p, ns, t, rfl, rfl, hS, hl, ht, q⟩ := h
  refine ⟨_, (pss_cons (ps_set (i := 2) sc_l_reel.nd rfl (.inl rfl) (pe_ifExp (pt_cmpR op_lt (pv 1) (pe_callB call_len_seq (by rfl) T.z_len (by decide +kernel) (pa_cons (pv 0) pa_nil)) (nomark _)) (pe_ix ix_list (pv 0) (pv 1) (fun _ _ => rfl)) (pe_op op_add (pe_op op_mul pe_int (pv 1)) pe_int)))
      (pss_cons (ps_set (i := 3) sc_l_reel.nd rfl (.inl rfl) (pe_op op_add pe_int (pe_op op_mul pe_int (pv 1))))
      (pss_cons (ps_for PassesOwn.never rfl (pi_list (pe_op op_cat (pe_slice sl_list (pv 0) po_none (po_some pe_int)) (pe_lst (pa_cons (pv 2) pa_nil)))) (pg_name (i := 4) sc_l_reel.nd rfl (.inl rfl))
      (pss_one (ps_set (i := 3) sc_l_reel.nd rfl (.inl rfl) (pe_op op_mod (pe_callTy call_int1 (by rfl) T.z_int (by decide +kernel) (pa_cons (pe_op op_add (pe_op op_mul (pv 3) pe_int) (pe_op op_mod (pe_callTy call_int1 (by rfl) T.z_int (by decide +kernel) (pa_cons (pv 4) pa_nil)) pe_int)) pa_nil)) pe_int))))
      (pss_one (ps_ret (pe_lst (pa_cons (pe_ifExp (PW.pt (pw_or (pt_cmpR op_lt (pv 2) pe_int (nomark _)) (pw_or1 (pt_cmpR op_ge (pv 2) (pe_op op_pow pe_int pe_int) (nomark _))))) (pe_callB call_abs (by rfl) T.z_abs (by decide +kernel) (pa_cons (pv 2) pa_nil)) pe_int) (pa_cons (pv 3) (pa_cons pe_int pa_nil))))))))), ?_⟩
  refine ⟨_, rfl, _, rfl, p, _, rfl, .inl hS, _, _, rfl, rfl, _, rfl, ?_⟩
  refine ite2 (fun e => ?a) (fun e => ?b)
  case' a =>
    have lt : t < ((ns.map V.int).length : Int) := of_decide_eq_true e
    obtain ⟨k, hkt⟩ := Int.eq_ofNat_of_zero_le (show 0 ≤ t by omega)
    have hk : k < ns.length := by rw [List.length_map] at lt; omega
    let own : Int := ns[k]
    refine ⟨_, rfl, _, rfl, p, _, t, .int own, rfl, rfl, hS, (by rw [hkt]; exact atI_nat (by rw [List.getElem?_map, List.getElem?_eq_getElem hk]; rfl)), ?_⟩
  case' b =>
    let own : Int := 211 * t + 37
    refine ⟨_, rfl, _, _, rfl, rfl, .inl ⟨by decide, by decide⟩, _, _, rfl, rfl, ?_⟩
  all_goals
    refine ⟨_, rfl, _, _, rfl, rfl, .inl ⟨by decide, by decide⟩, _, _, rfl, rfl, ?_⟩
    refine ⟨_, rfl, 5, rfl, p, _, rfl, hS, fun c nc => ?_⟩
    have cutI : ∃ ms : List Int, cutV (ns.map V.int) none (some 5) = ms.map V.int ∧ ms.length ≤ 63 := ⟨(ns.drop _).take _, by unfold cutV; rw [← List.map_drop, ← List.map_take], by rw [List.length_take, List.length_drop]; omega⟩
    obtain ⟨ms, ems, lms⟩ := cutI
    rw [ems]
    refine ⟨_, rfl, szL rfl, fun c2 nc2 => ?_⟩
    have sc1 : Same H (upd H c (.lst (ms.map V.int))) := same_new nc
    have sc2 : Same H (upd (upd H c (.lst (ms.map V.int))) c2 (.lst [.int own])) := sc1.trans (same_new nc2)
    have hc1 : (upd (upd H c (.lst (ms.map V.int))) c2 (.lst [.int own])) c = some (.lst (ms.map V.int)) := same_new nc2 _ _ upd_same
    refine ⟨c, c2, _, _, rfl, rfl, hc1, upd_same, ?_, fun c3 nc3 => ?_⟩
    · rw [List.length_map, sizeLine_eq]
      show ms.length + 1 ≤ _
      omega
    have em : ms.map V.int ++ [V.int own] = (ms ++ [own]).map V.int := by rw [List.map_append]; rfl
    generalize e3 : upd (upd (upd H c (.lst (ms.map V.int))) c2 (.lst [.int own])) c3 _ = H3
    have hl3 : H3 c3 = some (.lst ((ms ++ [own]).map V.int)) := by
      rw [← e3, upd_same, ← em]
    have sc3 : Same H H3 := by
      rw [← e3]
      exact sc2.trans (same_new nc3)
    refine ⟨c3, rfl, ⟨_, SqL.of hl3⟩, ?_⟩
    refine for_list (xs := (ms ++ [own]).map V.int) (fun i σ H' => ∃ mx y, σ = [some (.ref p), some (.int t), some (.int own), some (.int mx), y] ∧ H' = H3) ⟨_, none, rfl, rfl⟩ ?_ ?_ ?_
    · rintro i σ H' hi ⟨mx, y, rfl, rfl⟩
      exact SqL.of hl3
    · rintro i x σ H' hx ⟨mx, y, rfl, rfl⟩
      obtain ⟨k, rfl⟩ : ∃ k : Int, x = .int k := by
        have := List.mem_of_getElem? hx
        rw [List.mem_map] at this
        obtain ⟨k, _, rfl⟩ := this
        exact ⟨k, rfl⟩
      exact ⟨_, rfl, _, _, rfl, rfl, .inr ⟨by decide, by decide⟩, _, rfl, .inl ⟨_, rfl, _, _, rfl, rfl, (by show (0 : Int) < 2147480009; decide), _, _, rfl, rfl, .inl ⟨_, rfl, _, _, rfl, rfl, (by show (0 : Int) < 2147480009; decide), _, _, rfl, rfl⟩⟩⟩
    · rintro σ H' ⟨mx, y, rfl, rfl⟩
      have last : ∀ b : Int, 0 ≤ b → ∀ z : Int, [V.int b, V.int z, V.int 1].length ≤ sizeLine ∧ ∀ v, H' v = none → Q (.ref v) (upd H' v (.lst [.int b, .int z, .int 1])) := by
        intro b hb z
        refine ⟨szL rfl, fun v nv => ?_⟩
        exact q v _ b z (sc3.trans (same_new nv)) (sc3.free nv) upd_same hb
      refine ⟨_, rfl, _, _, rfl, rfl, _, rfl, ite2 (fun e1 => ?_) (fun e1 => ?_)⟩
      · exact ⟨_, rfl, _, rfl, _, rfl, last _ (abs_nn own) _⟩
      · refine ⟨_, rfl, _, _, rfl, rfl, ⟨by decide, by decide, by decide⟩, _, _, rfl, rfl, _, rfl, ite2 (fun e1 => ?_) (fun e1 => ?_)⟩
        · exact ⟨_, rfl, _, rfl, _, rfl, last _ (abs_nn own) _⟩
        · exact ⟨_, rfl, last 0 (Int.le_refl _) _⟩
/-- a number from 0 to one less than most is drawn -/
def spWind : Sp := sp2 fun x y H Q => ∃ v n M m, x = .ref v ∧ y = .int m ∧ Vl v n M H ∧ n < 1000000 ∧ 0 < m ∧ m < 1000000000 ∧
  ∀ r H', 0 ≤ r → r < m → Vl v (n + 1) M H' → Q (.int r) H'
theorem ok_l_wind (T : Txt K w mg a) : FnOk P w K mg base CX0 1 a.f_l_wind a.d_l_wind ["_law_reel_here", "_law_many"] spWind := by
  refine T.F_l_wind.ok sc_l_wind (len2 rfl) (fun cdv A outer s H vs Q E hr h => ?_)
  obtain ⟨_, _, rfl, v, n, M, m, rfl, rfl, w, hn, h0, h1, q⟩ := h
  obtain ⟨x, y, z, hv, hx, hz, hzn⟩ := w.at_
  refine ⟨_, (pss_cons (ps_if (pt_cmpR op_gt (pe_ix ix_list (pv 0) pe_int (fun _ _ => rfl)) pe_int (nomark _))
      (pss_cons (ps_asg (pe_callB call_divmod (by rfl) T.z_divmod (by decide +kernel) (pa_cons (pe_ix ix_list (pv 0) pe_int (fun _ _ => rfl)) (pa_cons (pv 1) pa_nil))) (pg_tup (by rfl) (pgs_cons (pg_sub (pv 0) pe_int set_list) (pgs_cons (pg_name (i := 2) sc_l_wind.nd rfl (.inl rfl)) pgs_nil))))
      (pss_one (ps_ret (pv 2)))) pss_nil)
      (pss_cons (ps_asg (pe_op op_add (pe_ix ix_list (pv 0) pe_int (fun _ _ => rfl)) pe_int) (pg_sub (pv 0) pe_int set_list))
      (pss_cons (ps_asg (pe_op op_mod (pe_callTy call_int1 (by rfl) T.z_int (by decide +kernel) (pa_cons (pe_op op_add (pe_op op_add (pe_op op_mul (pe_ix ix_list (pv 0) pe_int (fun _ _ => rfl)) pe_int) (pe_op op_mul (pe_op op_mul (pe_ix ix_list (pv 0) pe_int (fun _ _ => rfl)) (pe_ix ix_list (pv 0) pe_int (fun _ _ => rfl))) pe_int)) pe_int) pa_nil)) pe_int) (pg_sub (pv 0) pe_int set_list))
      (pss_one (ps_ret (pe_op op_mod (pe_callTy call_int1 (by rfl) T.z_int (by decide +kernel) (pa_cons (pe_op op_fdiv (pe_ix ix_list (pv 0) pe_int (fun _ _ => rfl)) pe_int) pa_nil)) (pv 1))))))), ?_⟩
  refine ⟨_, rfl, v, _, _, _, rfl, rfl, SqL.of hv, rfl, _, _, rfl, rfl, _, rfl, ite2 (fun e => ?_) (fun e => ?_)⟩
  · refine ⟨_, rfl, v, _, _, _, rfl, rfl, SqL.of hv, rfl, _, rfl, _, _, rfl, ⟨h0, by omega⟩, fun p hp => ?_⟩
    have hv2 : (upd H p (.tup [.int (x / m), .int (x % m)])) v = some (.lst [.int x, .int y, .int z]) := by
      rw [upd_ne (ne_of_none hv hp)]
      exact hv
    refine ⟨p, _, rfl, .inl (.inl upd_same), rfl, _, _, rfl, ?_⟩
    refine ⟨_, rfl, v, _, _, 0, rfl, rfl, hv2, rfl, ?_⟩
    refine ⟨_, _, rfl, rfl, ?_⟩
    refine ⟨_, rfl, q _ _ (Int.emod_nonneg _ (by omega)) (Int.emod_lt_of_pos _ h0) ?_⟩
    exact vl_set (fun b o e => same_new hp b o (w.inn b o e)) w.off (Int.ediv_nonneg hx (by omega)) hz (by omega)
  · refine ⟨_, rfl, v, _, _, _, rfl, rfl, SqL.of hv, rfl, _, _, rfl, rfl, _, rfl, v, _, _, 2, rfl, rfl, hv, rfl, ?_⟩
    have hv3 : (upd H v (.lst [.int x, .int y, .int (z + 1)])) v = some (.lst [.int x, .int y, .int (z + 1)]) := upd_same
    refine ⟨_, rfl, v, _, _, _, rfl, rfl, SqL.of hv3, rfl, _, _, rfl, rfl, .inr ⟨by decide, by decide⟩, ?_⟩
    refine ⟨_, rfl, v, _, _, _, rfl, rfl, SqL.of hv3, rfl, _, rfl, v, _, _, _, rfl, rfl, SqL.of hv3, rfl, _, _, rfl, rfl, .inl ⟨by omega, by omega⟩, ?_⟩
    refine ⟨_, _, rfl, rfl, .inr ⟨by decide, by decide⟩, _, _, rfl, rfl, _, _, rfl, rfl, .inl ⟨_, rfl, _, _, rfl, rfl, (by show (0 : Int) < 2147480009; decide), ?_⟩⟩
    refine ⟨_, rfl, v, _, _, 1, rfl, rfl, hv3, rfl, ?_⟩
    refine ⟨_, rfl, v, _, _, _, rfl, rfl, SqL.of upd_same, rfl, _, _, rfl, rfl, ⟨by decide, by decide⟩, .inl ⟨_, rfl, _, rfl, _, _, rfl, rfl, h0, ?_⟩⟩
    refine q _ _ (Int.emod_nonneg _ (by omega)) (Int.emod_lt_of_pos _ h0) ?_
    rw [upd_upd]
    exact vl_set w.inn w.off hx (by omega) (by omega)
/-- three numbers are drawn -/
def spTrip : Sp := sp2 fun x y H Q => ∃ v n M m, x = .ref v ∧ y = .int m ∧ Vl v n M H ∧ n + 3 < 1000000 ∧ 0 ≤ m ∧ m ≤ 1000 ∧
  ∀ r M' H' t, Same M M' → Vl v (n + 3) M' H' → TripAt M' r t → B m.toNat t → Q r H'
theorem ok_l_trip (T : Txt K w mg a) : FnOk P w K mg base CX0 2 a.f_l_trip a.d_l_trip ["_law_reel_here", "_law_size"] spTrip := by
  refine T.F_l_trip.ok sc_l_trip (len2 rfl) (fun cdv A outer s H vs Q E hr h => ?_)
  obtain ⟨_, _, rfl, v, n, M, m, rfl, rfl, w, hn, h0, h1, q⟩ := h
  refine ⟨_, (pss_one (ps_ret (pe_callTy call_tuple_of (by rfl) T.z_tuple (by decide +kernel) (pa_cons (pe_lc (own := [("_law_spot", 2)]) (g := gName 2) (tt := tYes) rfl sc_l_trip.nd (pi_range1 (by rfl) T.z_range (pa_cons pe_int pa_nil)) (blkOk_by (own := [("_law_spot", 2)]) (N := ["_law_reel_here", "_law_size", "_law_spot"]) (sc := defScope s_l_trip) (by decide +kernel)) (fun _ _ _ _ _ => (pg_name (i := 2) sc_l_trip.nd rfl (.inl rfl))) (fun _ _ _ _ _ => pts_nil) (fun _ _ _ _ _ => (pe_op op_sub (pe_call (ok_l_wind T) (hr.mono (by decide)) (by rfl) T.g_l_wind T.F_l_wind.kp T.b_l_wind .nil pass0 (pa_cons (pv 0) (pa_cons (pe_op op_add (pe_op op_mul pe_int (pv 1)) pe_int) pa_nil))) (pv 1)))) pa_nil)))), ?_⟩
  refine ⟨3, rfl, by decide, by decide, fun D nD => ?_⟩
  refine lc_range (n := 3) (fun i H' => ∃ M' ys, BuildV v (n + i) M D (ys.map V.int) M' H' ∧ ys.length = i ∧ ∀ y ∈ ys, y.natAbs ≤ m.toNat) ⟨_, [], BuildV.start w nD, rfl, fun _ h => nomatch h⟩ ?_ ?_
  · rintro i H1 hi ⟨M1, ys, b, hl, hy⟩
    refine ⟨rfl, yes_if ?_⟩
    refine ⟨_, rfl, _, rfl, _, _, rfl, rfl, .inl ⟨by decide, by decide⟩, _, _, rfl, rfl, ?_⟩
    refine ⟨_, _, rfl, v, n + i, M1, 2 * m + 1, rfl, rfl, b.vl, by omega, by omega, by omega, fun r H2 r0 r1 w2 => ?_⟩
    refine ⟨_, rfl, _, _, rfl, rfl, ?_⟩
    have b2 : BuildV v (n + (i + 1)) M D (ys.map V.int) M1 H2 := b.draw (Same.refl _) w2
    refine ⟨_, b2.here, ?_, upd M1 D (.lst (ys.map V.int ++ [.int (r - m)])), ys ++ [r - m], ?_, ?_, ?_⟩
    · rw [List.length_map]
      exact small1000 (by omega)
    · rw [List.map_append]
      exact b2.push _
    · rw [List.length_append, hl]
      rfl
    · intro y hy2
      rcases List.mem_append.mp hy2 with h | h
      · exact hy y h
      · rw [List.mem_singleton.mp h]
        omega
  · rintro H1 ⟨M1, ys, b, hl, hy⟩
    match ys, hl with
    | [y1, y2, y3], _ =>
      refine ⟨D, _, rfl, .inl ⟨SqL.of b.here, fun l nl => ?_⟩⟩
      have g := gr_new (o := .tup [.int y1, .int y2, .int y3]) b.vl.inn nl
      refine q _ _ _ (y1, y2, y3) (b.ex.trans g.ex) (b.vl.grow g) ⟨l, rfl, upd_same⟩ ⟨hy _ (by simp), hy _ (by simp), hy _ (by simp)⟩
end

end K63

namespace K63
open PySem PySem.Spec PyProof.Rows L2 Own
section
variable {P : Program} {w : World} {K : PySem.W.Frag} {mg : Str → Option Value} {base : Heap} {a : Ad}
/-- one of some things, or of some signs -/
def spOneOf (K : PySem.W.Frag) : Sp := sp2 fun x y H Q => ∃ v n M, x = .ref v ∧ Vl v n M H ∧ n < 1000000 ∧
  ((∃ p xs, y = .ref p ∧ M p = some (.lst xs) ∧ 0 < xs.length ∧ xs.length < 1000 ∧ ∀ r H', r ∈ xs → Vl v (n + 1) M H' → Q r H') ∨
   (∃ z : Str, y = .str z ∧ 0 < z.length ∧ z.length < 1000 ∧ ∀ c H', c ∈ z.cps.toList → Vl v (n + 1) M H' → Q (.str ⟨#[c]⟩) H'))
theorem ok_l_one_of (T : Txt K w mg a) : FnOk P w K mg base CX0 2 a.f_l_one_of a.d_l_one_of ["_law_reel_here", "_law_menu"] (spOneOf K) := by
  refine T.F_l_one_of.ok sc_l_one_of (len2 rfl) (fun cdv A outer s H vs Q E hr h => ?_)
  obtain ⟨_, _, rfl, v, n, M, rfl, w, hn, h⟩ := h
  refine ⟨_, (pss_one (ps_ret (pe_ix (ix_ls (K := K)) (pv 1) (pe_call (ok_l_wind T) (hr.mono (by decide)) (by rfl) T.g_l_wind T.F_l_wind.kp T.b_l_wind .nil pass0 (pa_cons (pv 0) (pa_cons (pe_callB (len_ls (K := K)) (by rfl) T.z_len (by decide +kernel) (pa_cons (pv 1) pa_nil)) pa_nil))) (fun _ _ => rfl)))), ?_⟩
  rcases h with ⟨p, xs, rfl, hp, h0, h1, q⟩ | ⟨z, rfl, h0, h1, q⟩
  · refine ⟨_, rfl, _, rfl, _, rfl, .inl ⟨p, xs, rfl, .inl (SqL.of (w.inn _ _ hp)), _, _, rfl, v, n, M, _, rfl, rfl, w, hn, by omega, by omega, fun r H' r0 r1 w' => .inl ?_⟩⟩
    obtain ⟨k, rfl⟩ := Int.eq_ofNat_of_zero_le r0
    have hk : k < xs.length := by omega
    exact ⟨p, xs, (k : Int), xs[k], rfl, rfl, SqL.of (w'.inn _ _ hp), atI_nat (List.getElem?_eq_getElem hk), q _ H' (List.getElem_mem hk) w'⟩
  · have hz : z.length ≤ sizeLine := Nat.le_of_lt (small1000 (Nat.le_of_lt h1))
    refine ⟨_, rfl, _, rfl, _, rfl, .inr ⟨z, rfl, hz, _, _, rfl, v, n, M, _, rfl, rfl, w, hn, by omega, by omega, fun r H' r0 r1 w' => .inr ?_⟩⟩
    obtain ⟨k, rfl⟩ := Int.eq_ofNat_of_zero_le r0
    have hk : k < z.cps.toList.length := by
      rw [Array.length_toList]
      have : z.length = z.cps.size := rfl
      omega
    exact ⟨z, (k : Int), z.cps.toList[k], rfl, rfl, hz, atI_nat (List.getElem?_eq_getElem hk), q _ H' (List.getElem_mem hk) w'⟩
end

end K63

namespace K63
open PySem PySem.Spec PyProof.Rows L2 Own
section
variable {P : Program} {w : World} {K : PySem.W.Frag} {mg : Str → Option Value} {base : Heap} {a : Ad}
/-! ### so often -/
def powT (t : T3) (c : Int) : T3 := (t.1 * c, t.2.1 * c, t.2.2 * c + triI c * t.1 * t.2.1)
theorem tri2 (m : Int) : 2 * triI m = m * (m - 1) := by
  unfold triI
  refine Int.mul_ediv_cancel' ?_
  rcases Int.emod_two_eq m with h | h
  · exact Int.dvd_trans (Int.dvd_of_emod_eq_zero h) (Int.dvd_mul_right _ _)
  · exact Int.dvd_trans (Int.dvd_of_emod_eq_zero (by omega)) (Int.dvd_mul_left _ _)
theorem tri_add (x y : Int) : triI (x + y) = triI x + triI y + x * y := by
  have h1 := tri2 (x + y)
  have h2 := tri2 x
  have h3 := tri2 y
  have h4 : (x + y) * (x + y - 1) = x * (x - 1) + y * (y - 1) + 2 * (x * y) := by grind
  omega
theorem pow_add (t : T3) (x y : Int) : putT (powT t x) (powT t y) = powT t (x + y) := by
  simp only [putT, powT, Prod.mk.injEq, tri_add]
  refine ⟨by grind, by grind, by grind⟩
theorem pow_zero (t : T3) : powT t 0 = (0, 0, 0) := by
  simp [powT, triI]
theorem pow_one (t : T3) : powT t 1 = t := by
  simp [powT, triI]
theorem B.pow {n m : Nat} {t : T3} {c : Int} (h : B n t) (k : c.natAbs ≤ m) : B (n * m + m * (m + 1) * n * n) (powT t c) := by
  obtain ⟨h1, h2, h3⟩ := h
  have z1 := na_mul h1 k
  have z2 := na_mul h2 k
  have z3 := na_mul h3 k
  have z4 : (triI c).natAbs ≤ m * (m + 1) := Nat.le_trans (div_le _ 2 (by decide)) (na_mul k (by omega))
  have z5 := na_mul (na_mul z4 h1) h2
  refine ⟨?_, ?_, ?_⟩ <;> simp only [powT] <;> omega
theorem mod_succ {c p : Int} (hp : 0 < p) : c % (p * 2) = c % p + p * (c / p % 2) := by
  have h1 := Int.mul_ediv_add_emod c p
  have h2 := Int.mul_ediv_add_emod (c / p) 2
  have m0 : 0 ≤ c % p := Int.emod_nonneg _ (by omega)
  have m1 : c % p < p := Int.emod_lt_of_pos _ hp
  have e : c = (c % p + p * (c / p % 2)) + p * 2 * (c / p / 2) := by grind
  have k : (c % p + p * (c / p % 2)) % (p * 2) = c % p + p * (c / p % 2) := by
    refine Int.emod_eq_of_lt ?_ ?_
    · rcases Int.emod_two_eq (c / p) with h | h <;> rw [h] <;> omega
    · rcases Int.emod_two_eq (c / p) with h | h <;> rw [h] <;> omega
  have e2 : c % (p * 2) = ((c % p + p * (c / p % 2)) + p * 2 * (c / p / 2)) % (p * 2) := by rw [← e]
  rw [e2, Int.add_mul_emod_self_left, k]
def spPower : Sp := sp2 fun x y H Q => ∃ M t c, Same M H ∧ TripAt M x t ∧ y = .int c ∧ 0 ≤ c ∧ c ≤ 10 ^ 30 ∧ B (10 ^ 40) t ∧ NewT M H (powT t c) Q
/-- what lies between -/
def spBet : Sp := sp2 fun x y H Q => ∃ M c s, Same M H ∧ TripAt M x c ∧ TripAt M y s ∧ B (10 ^ 102) c ∧ B (10 ^ 60) s ∧ NewT M H (betT c s) Q
/-! ### lists of ints -/
def dIs (l : List Int) : PyData := .list (l.map PyData.int)
theorem dp_ints {M : Hp} {p : Addr} {l : List Int} (h : M p = some (.lst (l.map V.int))) : Dp K M (.ref p) (dIs l) := by
  refine .lst (SqL.of h) ?_
  clear h
  induction l with
  | nil => exact .nil
  | cons i l ih => exact .cons (.int i) ih
theorem sh_ints (l : List Int) : SeqAt.shaped (dIs l) = true := by
  have e1 : PyData.canLay0 (dIs l) = true := by
    have : ∀ ss : List Int, PyData.canLayAll0 (ss.map PyData.int) = true := by
      intro ss
      induction ss with
      | nil => rfl
      | cons s r ih =>
        rw [List.map_cons]
        show (PyData.canLay0 (.int s) && PyData.canLayAll0 (r.map PyData.int)) = true
        rw [ih]
        rfl
    exact this l
  have e2 : PyData.depth (dIs l) ≤ 64 := by
    have : ∀ ss : List Int, PyData.depthAll (ss.map PyData.int) ≤ 1 := by
      intro ss
      induction ss with
      | nil => exact Nat.zero_le _
      | cons s r ih =>
        rw [List.map_cons]
        show max (PyData.depth (.int s)) (PyData.depthAll (r.map PyData.int)) ≤ 1
        exact Nat.max_le.mpr ⟨Nat.zero_le _, ih⟩
    have := this l
    show PyData.depthAll (l.map PyData.int) + 1 ≤ 64
    omega
  unfold SeqAt.shaped
  rw [e1, decide_eq_true e2]
  rfl
theorem eqv_ints (l : List Int) : PyData.eqv (dIs l) (.list []) = l.isEmpty := by
  cases l with
  | nil => rfl
  | cons _ _ => rfl
end

end K63

namespace K63
open PySem PySem.Spec PyProof.Rows L2 Own
section
variable {P : Program} {w : World} {K : PySem.W.Frag} {mg : Str → Option Value} {base : Heap} {a : Ad}
/-! ### three numbers here or in the written part -/
def TripK (K : PySem.W.Frag) (H : Hp) (x : V) (t : T3) : Prop := ∃ p, x = .ref p ∧ SqT K H p [.int t.1, .int t.2.1, .int t.2.2]
theorem TripAt.k {H : Hp} {x : V} {t : T3} (h : TripAt H x t) : TripK K H x t := by
  obtain ⟨p, r, h⟩ := h
  exact ⟨p, r, SqT.of h⟩
theorem rk0 {σ : L2.St} {H : Hp} {x : V} {t : T3} {Q : VK} (h : TripK K H x t) (q : Q (.int t.1) H) :
    tC (V.int 0) σ H fun y H2 => rIxT K x y H2 Q := by
  obtain ⟨p, rfl, h⟩ := h
  exact ⟨p, _, 0, _, rfl, rfl, h, rfl, q⟩
theorem rk1 {σ : L2.St} {H : Hp} {x : V} {t : T3} {Q : VK} (h : TripK K H x t) (q : Q (.int t.2.1) H) :
    tC (V.int 1) σ H fun y H2 => rIxT K x y H2 Q := by
  obtain ⟨p, rfl, h⟩ := h
  exact ⟨p, _, 1, _, rfl, rfl, h, rfl, q⟩
theorem rk2 {σ : L2.St} {H : Hp} {x : V} {t : T3} {Q : VK} (h : TripK K H x t) (q : Q (.int t.2.2) H) :
    tC (V.int 2) σ H fun y H2 => rIxT K x y H2 Q := by
  obtain ⟨p, rfl, h⟩ := h
  exact ⟨p, _, 2, _, rfl, rfl, h, rfl, q⟩
theorem TripK.dp {H : Hp} {x : V} {t : T3} (h : TripK K H x t) : Dp K H x (dT t) := by
  obtain ⟨p, rfl, h⟩ := h
  exact .tup h (.cons (.int _) (.cons (.int _) (.cons (.int _) .nil)))
theorem TripK.mono {M M1 : Hp} {x : V} {t : T3} (h : TripK K M x t) (e : Same M M1) : TripK K M1 x t := by
  obtain ⟨p, r, h⟩ := h
  exact ⟨p, r, same_t e h⟩
def spPutK (K : PySem.W.Frag) : Sp := sp2 fun x y H Q => ∃ M s t, Same M H ∧ TripK K H x s ∧ TripK K H y t ∧ Sm s ∧ Sm t ∧ NewT M H (putT s t) Q
end

end K63

namespace K63
open PySem PySem.Spec PyProof.Rows L2 Own
section
variable {P : Program} {w : World} {K : PySem.W.Frag} {mg : Str → Option Value} {base : Heap} {a : Ad}
theorem ok_put_triples (T : Txt K w mg a) : FnOk P w K mg base CX0 1 a.f_put_triples a.d_put_triples ["one", "other"] (spPutK K) := by
  refine T.F_put_triples.ok sc_put_triples (len2 rfl) (fun cdv A outer s H vs Q E hr h => ?_)
  obtain ⟨_, _, rfl, M, s, t, hM, k1, k2, b1, b2, q⟩ := h
  refine ⟨_, (pss_one (ps_ret (pe_tup (pa_cons (pe_op op_add (pe_ix ix_tup (pv 0) pe_int (fun _ _ => rfl)) (pe_ix ix_tup (pv 1) pe_int (fun _ _ => rfl))) (pa_cons (pe_op op_add (pe_ix ix_tup (pv 0) pe_int (fun _ _ => rfl)) (pe_ix ix_tup (pv 1) pe_int (fun _ _ => rfl))) (pa_cons (pe_op op_add (pe_op op_add (pe_ix ix_tup (pv 0) pe_int (fun _ _ => rfl)) (pe_ix ix_tup (pv 1) pe_int (fun _ _ => rfl))) (pe_op op_mulW (pe_ix ix_tup (pv 0) pe_int (fun _ _ => rfl)) (pe_ix ix_tup (pv 1) pe_int (fun _ _ => rfl)))) pa_nil)))))), _, rfl, rk0 k1 ⟨_, rfl, rk0 k2 ⟨_, _, rfl, rfl, ?_⟩⟩⟩
  refine ⟨_, rfl, rk1 k1 ⟨_, rfl, rk1 k2 ⟨_, _, rfl, rfl, ?_⟩⟩⟩
  refine ⟨_, rfl, rk2 k1 ⟨_, rfl, rk2 k2 ⟨_, _, rfl, rfl, ?_⟩⟩⟩
  refine ⟨_, rfl, rk0 k1 ⟨_, rfl, rk1 k2 ⟨_, _, rfl, rfl, big_mul b1.1 b2.2.1, _, _, rfl, rfl, ?_⟩⟩⟩
  exact trip_next (t := putT s t) hM q
theorem ok_back_triple (T : Txt K w mg a) : FnOk P w K mg base CX0 1 a.f_back_triple a.d_back_triple ["one"] spOffT := by
  refine T.F_back_triple.ok sc_back_triple (len1 rfl) (fun cdv A outer s H vs Q E hr h => ?_)
  obtain ⟨_, rfl, M, s, hM, h1, b1, q⟩ := h
  have k1 := h1.mono hM
  refine ⟨_, (pss_one (ps_ret (pe_tup (pa_cons (pe_op op_sub pe_int (pe_ix ix_tup (pv 0) pe_int (fun _ _ => rfl))) (pa_cons (pe_op op_sub pe_int (pe_ix ix_tup (pv 0) pe_int (fun _ _ => rfl))) (pa_cons (pe_op op_sub (pe_op op_mulW (pe_ix ix_tup (pv 0) pe_int (fun _ _ => rfl)) (pe_ix ix_tup (pv 0) pe_int (fun _ _ => rfl))) (pe_ix ix_tup (pv 0) pe_int (fun _ _ => rfl))) pa_nil)))))), _, rfl, rd_t0 k1 ⟨_, _, rfl, rfl, ?_⟩⟩
  refine ⟨_, rfl, rd_t1 k1 ⟨_, _, rfl, rfl, ?_⟩⟩
  refine ⟨_, rfl, rd_t0 k1 ⟨_, rfl, rd_t1 k1 ⟨_, _, rfl, rfl, big_mul b1.1 b1.2.1, ?_⟩⟩⟩
  refine ⟨_, rfl, rd_t2 k1 ⟨_, _, rfl, rfl, ?_⟩⟩
  exact trip_next (t := offT s) hM q
def spManyT : Sp := sp2 fun x y H Q => ∃ M t c, Same M H ∧ TripAt M x t ∧ y = .int c ∧ c.natAbs ≤ 10 ^ 50 ∧ B (10 ^ 140) t ∧ NewT M H (powT t c) Q
theorem ok_many_triples (T : Txt K w mg a) : FnOk P w K mg base CX0 1 a.f_many_triples a.d_many_triples ["one", "times"] spManyT := by
  refine T.F_many_triples.ok sc_many_triples (len2 rfl) (fun cdv A outer s H vs Q E hr h => ?_)
  obtain ⟨_, _, rfl, M, t, c, hM, h1, rfl, bc, bt, q⟩ := h
  have k1 := h1.mono hM
  have cb : c.natAbs < 10 ^ 300 := Nat.lt_of_le_of_lt bc (by decide +kernel)
  have st := bt.sm (by decide +kernel)
  have t1 : (c * (c - 1)).natAbs ≤ 10 ^ 50 * (10 ^ 50 + 1) := na_mul bc (by omega)
  have t2 : (c * (c - 1) / 2).natAbs ≤ 10 ^ 50 * (10 ^ 50 + 1) := Nat.le_trans (div_le _ 2 (by decide)) t1
  have t3 := na_mul t2 bt.1
  refine ⟨_, (pss_one (ps_ret (pe_tup (pa_cons (pe_op op_mulW (pe_ix ix_tup (pv 0) pe_int (fun _ _ => rfl)) (pv 1)) (pa_cons (pe_op op_mulW (pe_ix ix_tup (pv 0) pe_int (fun _ _ => rfl)) (pv 1)) (pa_cons (pe_op op_add (pe_op op_mulW (pe_ix ix_tup (pv 0) pe_int (fun _ _ => rfl)) (pv 1)) (pe_op op_mulW (pe_op op_mulW (pe_op op_fdivW (pe_op op_mulW (pv 1) (pe_op op_sub (pv 1) pe_int)) pe_int) (pe_ix ix_tup (pv 0) pe_int (fun _ _ => rfl))) (pe_ix ix_tup (pv 0) pe_int (fun _ _ => rfl)))) pa_nil)))))), _, rfl, rd_t0 k1 ⟨_, rfl, _, _, rfl, rfl, big_mul st.1 cb, ?_⟩⟩
  refine ⟨_, rfl, rd_t1 k1 ⟨_, rfl, _, _, rfl, rfl, big_mul st.2.1 cb, ?_⟩⟩
  refine ⟨_, rfl, rd_t2 k1 ⟨_, rfl, _, _, rfl, rfl, big_mul st.2.2 cb, ?_⟩⟩
  refine ⟨_, rfl, _, rfl, _, _, rfl, rfl, _, _, rfl, rfl, big_mul cb (lt300 (show (c - 1).natAbs ≤ 10 ^ 50 + 1 by omega) (by decide +kernel)), ?_⟩
  refine ⟨_, _, rfl, rfl, big_div (by decide) (by decide +kernel), ?_⟩
  refine ⟨_, rfl, rd_t0 k1 ⟨_, _, rfl, rfl, big_mul (lt300 t2 (by decide +kernel)) st.1, ?_⟩⟩
  refine ⟨_, rfl, rd_t1 k1 ⟨_, _, rfl, rfl, big_mul (lt300 t3 (by decide +kernel)) st.2.1, ?_⟩⟩
  refine ⟨_, _, rfl, rfl, ?_⟩
  exact trip_next (t := powT t c) hM q
/-! ### the functions of the interface -/
def spThenM (C : Addr) : Sp := sp2 fun x y H Q => ∃ M s t, Same M H ∧ Mv C M x s ∧ Mv C M y t ∧ Sm s ∧ Sm t ∧ New3 C M H (putT s t) Q
theorem ok_move_then (T : Txt K w mg a) : FnOk P w K mg base CX0 7 a.f_move_then a.d_move_then ["one", "other"] (spThenM a.C_Move) := by
  refine T.F_move_then.ok sc_move_then (len2 rfl) (fun cdv A outer s H vs Q E hr h => ?_)
  obtain ⟨_, _, rfl, M, s, t, hM, h1, h2, b1, b2, q⟩ := h
  refine ⟨_, (pss_cons (ps_expr (pe_call (ok_check_moves T) (hr.mono (by decide)) (by rfl) T.g_check_moves T.F_check_moves.kp T.b_check_moves .nil pass0 (pa_cons (pv 0) (pa_cons (pv 1) pa_nil))))
      (pss_one (ps_ret (pe_call (ok_made_move T) (hr.mono (by decide)) (by rfl) T.g_made_move T.F_made_move.kp T.b_made_move .nil pass0 (pa_cons (pe_call (ok_put_triples T) (hr.mono (by decide)) (by rfl) T.g_put_triples T.F_put_triples.kp T.b_put_triples .nil pass0 (pa_cons (pe_call (ok_triple T) (hr.mono (by decide)) (by rfl) T.g_triple T.F_triple.kp T.b_triple .nil pass0 (pa_cons (pv 0) pa_nil)) (pa_cons (pe_call (ok_triple T) (hr.mono (by decide)) (by rfl) T.g_triple T.F_triple.kp T.b_triple .nil pass0 (pa_cons (pv 1) pa_nil)) pa_nil))) pa_nil))))), _, rfl, _, rfl, _, _, rfl, s, t, h1.mono hM, h2.mono hM, ?_⟩
  refine ⟨_, rfl, _, rfl, M, s, hM, h1, fun r1 M1 H1 g1 k1 => ?_⟩
  refine ⟨_, rfl, _, rfl, M1, t, g1.inn, h2.mono g1.ex, fun r2 M2 H2 g2 k2 => ?_⟩
  refine ⟨_, _, rfl, M2, s, t, g2.inn, ((k1.mono g2.ex).mono g2.inn).k, (k2.mono g2.inn).k, b1, b2, fun r3 M3 H3 g3 k3 => ?_⟩
  exact ⟨_, rfl, M3, _, g3.inn, k3, fun r4 M4 H4 g4 k4 => q r4 M4 H4 (((g1.trans g2).trans g3).trans g4) k4⟩
def spUndM (C : Addr) : Sp := sp1 fun x H Q => ∃ M s, Same M H ∧ Mv C M x s ∧ Sm s ∧ New3 C M H (offT s) Q
theorem ok_move_undone (T : Txt K w mg a) : FnOk P w K mg base CX0 7 a.f_move_undone a.d_move_undone ["one"] (spUndM a.C_Move) := by
  refine T.F_move_undone.ok sc_move_undone (len1 rfl) (fun cdv A outer s H vs Q E hr h => ?_)
  obtain ⟨_, rfl, M, s, hM, h1, b1, q⟩ := h
  refine ⟨_, (pss_cons (ps_expr (pe_call (ok_check_move T) (hr.mono (by decide)) (by rfl) T.g_check_move T.F_check_move.kp T.b_check_move .nil pass0 (pa_cons (pv 0) pa_nil)))
      (pss_one (ps_ret (pe_call (ok_made_move T) (hr.mono (by decide)) (by rfl) T.g_made_move T.F_made_move.kp T.b_made_move .nil pass0 (pa_cons (pe_call (ok_back_triple T) (hr.mono (by decide)) (by rfl) T.g_back_triple T.F_back_triple.kp T.b_back_triple .nil pass0 (pa_cons (pe_call (ok_triple T) (hr.mono (by decide)) (by rfl) T.g_triple T.F_triple.kp T.b_triple .nil pass0 (pa_cons (pv 0) pa_nil)) pa_nil)) pa_nil))))), _, rfl, _, rfl, s, h1.mono hM, ?_⟩
  refine ⟨_, rfl, _, rfl, M, s, hM, h1, fun r1 M1 H1 g1 k1 => ?_⟩
  refine ⟨_, rfl, M1, s, g1.inn, k1, b1, fun r3 M3 H3 g3 k3 => ?_⟩
  exact ⟨_, rfl, M3, _, g3.inn, k3, fun r4 M4 H4 g4 k4 => q r4 M4 H4 ((g1.trans g3).trans g4) k4⟩
def spOftM (C : Addr) : Sp := sp2 fun x y H Q => ∃ M t c, Same M H ∧ Mv C M x t ∧ y = .int c ∧ c.natAbs ≤ 10 ^ 50 ∧ B (10 ^ 140) t ∧ New3 C M H (powT t c) Q
theorem ok_move_often (T : Txt K w mg a) : FnOk P w K mg base CX0 7 a.f_move_often a.d_move_often ["one", "times"] (spOftM a.C_Move) := by
  refine T.F_move_often.ok sc_move_often (len2 rfl) (fun cdv A outer s H vs Q E hr h => ?_)
  obtain ⟨_, _, rfl, M, t, c, hM, h1, rfl, bc, bt, q⟩ := h
  refine ⟨_, (pss_cons (ps_expr (pe_call (ok_check_move T) (hr.mono (by decide)) (by rfl) T.g_check_move T.F_check_move.kp T.b_check_move .nil pass0 (pa_cons (pv 0) pa_nil)))
      (pss_cons (ps_expr (pe_call (ok_check_whole T) (hr.mono (by decide)) (by rfl) T.g_check_whole T.F_check_whole.kp T.b_check_whole .nil pass0 (pa_cons (pv 1) pa_nil)))
      (pss_one (ps_ret (pe_call (ok_made_move T) (hr.mono (by decide)) (by rfl) T.g_made_move T.F_made_move.kp T.b_made_move .nil pass0 (pa_cons (pe_call (ok_many_triples T) (hr.mono (by decide)) (by rfl) T.g_many_triples T.F_many_triples.kp T.b_many_triples .nil pass0 (pa_cons (pe_call (ok_triple T) (hr.mono (by decide)) (by rfl) T.g_triple T.F_triple.kp T.b_triple .nil pass0 (pa_cons (pv 0) pa_nil)) (pa_cons (pv 1) pa_nil))) pa_nil)))))), _, rfl, _, rfl, t, h1.mono hM, ?_⟩
  refine ⟨_, rfl, _, rfl, c, rfl, ?_⟩
  refine ⟨_, rfl, _, rfl, M, t, hM, h1, fun r1 M1 H1 g1 k1 => ?_⟩
  refine ⟨_, rfl, _, _, rfl, M1, t, c, g1.inn, k1, rfl, bc, bt, fun r3 M3 H3 g3 k3 => ?_⟩
  exact ⟨_, rfl, M3, _, g3.inn, k3, fun r4 M4 H4 g4 k4 => q r4 M4 H4 ((g1.trans g3).trans g4) k4⟩
def spGapM (C : Addr) : Sp := sp2 fun x y H Q => ∃ M s t, Same M H ∧ Mv C M x s ∧ Mv C M y t ∧ Sm s ∧ Sm t ∧ New3 C M H (0, 0, gapT s t) Q
theorem ok_move_gap (T : Txt K w mg a) : FnOk P w K mg base CX0 7 a.f_move_gap a.d_move_gap ["one", "other"] (spGapM a.C_Move) := by
  refine T.F_move_gap.ok sc_move_gap (len2 rfl) (fun cdv A outer s H vs Q E hr h => ?_)
  obtain ⟨_, _, rfl, M, s, t, hM, h1, h2, b1, b2, q⟩ := h
  refine ⟨_, (pss_cons (ps_expr (pe_call (ok_check_moves T) (hr.mono (by decide)) (by rfl) T.g_check_moves T.F_check_moves.kp T.b_check_moves .nil pass0 (pa_cons (pv 0) (pa_cons (pv 1) pa_nil))))
      (pss_one (ps_ret (pe_make T.m_Move (ok_Move_init T) (hr.mono (by decide)) (by rfl) T.g_Move T.b_Move_init .nil pass0 (pa_cons pe_int (pa_cons pe_int (pa_cons (pe_call (ok_gap_of T) (hr.mono (by decide)) (by rfl) T.g_gap_of T.F_gap_of.kp T.b_gap_of .nil pass0 (pa_cons (pe_call (ok_triple T) (hr.mono (by decide)) (by rfl) T.g_triple T.F_triple.kp T.b_triple .nil pass0 (pa_cons (pv 0) pa_nil)) (pa_cons (pe_call (ok_triple T) (hr.mono (by decide)) (by rfl) T.g_triple T.F_triple.kp T.b_triple .nil pass0 (pa_cons (pv 1) pa_nil)) pa_nil))) pa_nil))))))), _, rfl, _, rfl, _, _, rfl, s, t, h1.mono hM, h2.mono hM, ?_⟩
  refine ⟨_, rfl, _, rfl, M, s, hM, h1, fun r1 M1 H1 g1 k1 => ?_⟩
  refine ⟨_, rfl, _, rfl, M1, t, g1.inn, h2.mono g1.ex, fun r2 M2 H2 g2 k2 => ?_⟩
  refine ⟨_, _, rfl, s, t, (k1.mono g2.ex).mono g2.inn, k2.mono g2.inn, b1, b2, ?_⟩
  exact mk_move (t := (0, 0, gapT s t)) g2.inn fun r M' H' g k => q r M' H' ((g1.trans g2).trans g) k
end

end K63

namespace K63
open PySem PySem.Spec PyProof.Rows L2 Own
section
variable {P : Program} {w : World} {K : PySem.W.Frag} {mg : Str → Option Value} {base : Heap} {a : Ad}
/-! ### three rows of three numbers -/
def mrow (t : T3) : Nat → List Int
  | 0 => [1, t.1, t.2.2]
  | 1 => [0, 1, t.2.1]
  | _ => [0, 0, 1]
def RowAt (M : Hp) (x : V) (r : List Int) : Prop := ∃ p, x = .ref p ∧ M p = some (.lst (r.map V.int))
theorem RowAt.mono {M M1 : Hp} {x : V} {r : List Int} (h : RowAt M x r) (e : Same M M1) : RowAt M1 x r := by
  obtain ⟨p, q, h⟩ := h
  exact ⟨p, q, e _ _ h⟩
def Sq (M : Hp) (x : V) (t : T3) : Prop := ∃ p x0 x1 x2, x = .ref p ∧ M p = some (.lst [x0, x1, x2]) ∧ RowAt M x0 (mrow t 0) ∧ RowAt M x1 (mrow t 1) ∧ RowAt M x2 (mrow t 2)
theorem Sq.mono {M M1 : Hp} {x : V} {t : T3} (h : Sq M x t) (e : Same M M1) : Sq M1 x t := by
  obtain ⟨p, x0, x1, x2, q, h, k0, k1, k2⟩ := h
  exact ⟨p, x0, x1, x2, q, e _ _ h, k0.mono e, k1.mono e, k2.mono e⟩
def NewSq (M H : Hp) (t : T3) (Q : VK) : Prop := ∀ r M' H', Gr M H M' H' → Sq M' r t → Q r H'
theorem mrow_len (t : T3) (i : Nat) : (mrow t i).length = 3 := by
  match i with
  | 0 => rfl
  | 1 => rfl
  | i + 2 => rfl
theorem mrow_at (t : T3) (i j : Nat) (hj : j < 3) : (mrow t i)[j]? = some ((mrow t i).getD j 0) := by
  have h : j < (mrow t i).length := by rw [mrow_len]; exact hj
  rw [List.getD_eq_getElem?_getD, List.getElem?_eq_getElem h]
  rfl
theorem mrow_b {t : T3} (h : Sm t) (i j : Nat) : ((mrow t i).getD j 0).natAbs < 10 ^ 300 := by
  obtain ⟨h1, h2, h3⟩ := h
  have z0 : (0 : Int).natAbs < 10 ^ 300 := by decide +kernel
  have z1 : (1 : Int).natAbs < 10 ^ 300 := by decide +kernel
  match i, j with
  | 0, 0 => exact z1
  | 0, 1 => exact h1
  | 0, 2 => exact h3
  | 0, j + 3 => exact z0
  | 1, 0 => exact z0
  | 1, 1 => exact z1
  | 1, 2 => exact h2
  | 1, j + 3 => exact z0
  | i + 2, 0 => exact z0
  | i + 2, 1 => exact z0
  | i + 2, 2 => exact z1
  | i + 2, j + 3 => exact z0
def mulE (s t : T3) (i j k : Nat) : Int := (mrow s i).getD k 0 * (mrow t k).getD j 0
def dotE (s t : T3) (i j : Nat) : Int := ((List.range 3).map (mulE s t i j)).sum
theorem dot_row (s t : T3) (i : Nat) (hi : i < 3) : (List.range 3).map (dotE s t i) = mrow (putT s t) i := by
  have e : ∀ j, dotE s t i j = mulE s t i j 0 + (mulE s t i j 1 + (mulE s t i j 2 + 0)) := fun j => rfl
  have r : ∀ f : Nat → Int, (List.range 3).map f = [f 0, f 1, f 2] := fun f => rfl
  rw [r, e, e, e]
  match i, hi with
  | 0, _ => simp [mulE, mrow, putT]; omega
  | 1, _ => simp [mulE, mrow, putT]; omega
  | 2, _ => simp [mulE, mrow, putT]
def spSquare : Sp := sp1 fun x H Q => ∃ M t, Same M H ∧ TripAt M x t ∧ NewSq M H t Q
theorem ok_l_square (T : Txt K w mg a) : FnOk P w K mg base CX0 1 a.f_l_square a.d_l_square ["_law_trip_here"] spSquare := by
  refine T.F_l_square.ok sc_l_square (len1 rfl) (fun cdv A outer s H vs Q E hr h => ?_)
  obtain ⟨_, rfl, M, t, hM, h1, q⟩ := h
  refine ⟨_, (pss_one (ps_ret (pe_lst (pa_cons (pe_lst (pa_cons pe_int (pa_cons (pe_ix ix_tup (pv 0) pe_int (fun _ _ => rfl)) (pa_cons (pe_ix ix_tup (pv 0) pe_int (fun _ _ => rfl)) pa_nil)))) (pa_cons (pe_lst (pa_cons pe_int (pa_cons pe_int (pa_cons (pe_ix ix_tup (pv 0) pe_int (fun _ _ => rfl)) pa_nil)))) (pa_cons (pe_lst (pa_cons pe_int (pa_cons pe_int (pa_cons pe_int pa_nil)))) pa_nil)))))), ?_⟩
  refine ⟨_, rfl, rd_t0 (h1.mono hM) ⟨_, rfl, rd_t2 (h1.mono hM) ?_⟩⟩
  refine ⟨szL rfl, fun p1 pn1 => ?_⟩
  generalize e1 : upd H p1 _ = H1
  obtain ⟨M1, g1, hp1⟩ := new_of e1 hM pn1
  replace h1 := h1.mono g1.ex
  have r0 : RowAt M1 (.ref p1) (mrow t 0) := ⟨p1, rfl, hp1⟩
  refine ⟨_, rfl, rd_t1 (h1.mono g1.inn) ?_⟩
  refine ⟨szL rfl, fun p2 pn2 => ?_⟩
  generalize e2 : upd H1 p2 _ = H2
  obtain ⟨M2, g2, hp2⟩ := new_of e2 g1.inn pn2
  replace r0 := r0.mono g2.ex
  have r1 : RowAt M2 (.ref p2) (mrow t 1) := ⟨p2, rfl, hp2⟩
  refine ⟨szL rfl, fun p3 pn3 => ?_⟩
  generalize e3 : upd H2 p3 _ = H3
  obtain ⟨M3, g3, hp3⟩ := new_of e3 g2.inn pn3
  replace r0 := r0.mono g3.ex
  replace r1 := r1.mono g3.ex
  have r2 : RowAt M3 (.ref p3) (mrow t 2) := ⟨p3, rfl, hp3⟩
  refine ⟨szL rfl, fun p4 pn4 => ?_⟩
  generalize e4 : upd H3 p4 _ = H4
  obtain ⟨M4, g4, hp4⟩ := new_of e4 g3.inn pn4
  exact q _ M4 H4 (((g1.trans g2).trans g3).trans g4) ⟨p4, _, _, _, rfl, hp4, r0.mono g4.ex, r1.mono g4.ex, r2.mono g4.ex⟩
theorem Sq.get {M : Hp} {x : V} {t : T3} (h : Sq M x t) : ∃ p xs, x = .ref p ∧ M p = some (.lst xs) ∧ xs.length = 3 ∧ ∀ i u, xs[i]? = some u → RowAt M u (mrow t i) := by
  obtain ⟨p, x0, x1, x2, rfl, h, k0, k1, k2⟩ := h
  refine ⟨p, _, rfl, h, rfl, fun i u e => ?_⟩
  match i, e with
  | 0, e => cases e; exact k0
  | 1, e => cases e; exact k1
  | 2, e => cases e; exact k2
  | i + 3, e => simp at e
def RowsL (M : Hp) (t : T3) (l : List V) : Prop := ∀ i u, l[i]? = some u → RowAt M u (mrow t i)
theorem RowsL.mono {M M1 : Hp} {t : T3} {l : List V} (h : RowsL M t l) (e : Same M M1) : RowsL M1 t l := fun i u z => (h i u z).mono e
def spTimes : Sp := sp2 fun x y H Q => ∃ M s t, Same M H ∧ Sq M x s ∧ Sq M y t ∧ Sm s ∧ Sm t ∧ NewSq M H (putT s t) Q
theorem at0 {α : Type} {xs : List α} {j : Nat} {v : α} (h : xs[j]? = some v) : atI xs (0 + (j : Int)) = some v := by
  rw [Int.zero_add]
  exact atI_nat h
theorem ok_l_times (T : Txt K w mg a) : FnOk P w K mg base CX0 1 a.f_l_times a.d_l_times ["_law_left", "_law_right_here"] spTimes := by
  refine T.F_l_times.ok sc_l_times (len2 rfl) (fun cdv A outer s0 H vs Q E hr h => ?_)
  obtain ⟨x0, y0, rfl, M, s, t, hM, hs, ht, bs, bt, q⟩ := h
  refine ⟨_, (pss_cons (ps_set (i := 2) sc_l_times.nd rfl (.inl rfl) (pe_lst pa_nil))
      (pss_cons (ps_for PassesOwn.never rfl (pi_list (pv 0)) (pg_name (i := 3) sc_l_times.nd rfl (.inr rfl))
      (pss_one (ps_expr (pe_bm PySem.F.plainAttrs_list PySem.F.slot_list_append PySem.F.type_list_append mt_append (pv 2) (pa_cons (pe_lc (own := [("_law_j", 4)]) (g := gName 4) (tt := tYes) rfl sc_l_times.nd (pi_range1 (by rfl) T.z_range (pa_cons pe_int pa_nil)) (blkOk_by (own := [("_law_j", 4)]) (N := ["_law_left", "_law_right_here", "_law_found", "_law_row", "_law_j", "_law_k"]) (sc := defScope s_l_times) (by decide +kernel)) (fun _ _ _ _ _ => (pg_name (i := 4) sc_l_times.nd rfl (.inr rfl))) (fun _ _ _ _ _ => pts_nil) (fun _ _ _ _ _ => (pe_callB (kSum (K := K)) (by rfl) T.z_sum (by decide +kernel) (pa_cons (pe_lc (own := [("_law_k", 5)]) (g := gName 5) (tt := tYes) rfl sc_l_times.nd (pi_range1 (by rfl) T.z_range (pa_cons pe_int pa_nil)) (blkOk_by (own := [("_law_k", 5)]) (N := ["_law_left", "_law_right_here", "_law_found", "_law_row", "_law_j", "_law_k"]) (by rfl)) (fun _ _ _ _ _ => (pg_name (i := 5) sc_l_times.nd rfl (.inl rfl))) (fun _ _ _ _ _ => pts_nil) (fun _ _ _ _ _ => (pe_op op_mulW (pe_ix (kIxL (K := K)) (pv 3) (pv 5) (fun _ _ => rfl)) (pe_ix (kIxL (K := K)) (pe_ix (kIxL (K := K)) (pv 1) (pv 5) (fun _ _ => rfl)) (pv 4) (fun _ _ => rfl))))) pa_nil)))) pa_nil)))))
      (pss_one (ps_ret (pv 2))))), ?_⟩
  refine ⟨szL rfl, fun F nF => ?_⟩
  generalize eF : upd H F _ = H1
  have b0 : Build M H F [] M H1 := eF ▸ Build.start hM nF
  obtain ⟨pl, ls, rfl, hpl, ll, rows⟩ := hs.get
  refine ⟨_, rfl, pl, rfl, ⟨_, SqL.of (b0.inn _ _ (b0.ex _ _ hpl))⟩, ?_⟩
  refine for_list (xs := ls) (fun i σ H' => ∃ M' y l, σ = [some (.ref pl), some y0, some (.ref F), y, none, none] ∧ Build M H F l M' H' ∧ l.length = i ∧ RowsL M' (putT s t) l) ⟨M, none, [], rfl, b0, rfl, fun i u z => by simp at z⟩ ?_ ?_ ?_
  · rintro i σ H' hi ⟨M', y, l, rfl, b, _⟩
    exact SqL.of (b.inn _ _ (b.ex _ _ hpl))
  · rintro i x σ H' hx ⟨M', y, l, rfl, b, lc, rl⟩
    have hi : i < 3 := by
      have := (List.getElem?_eq_some_iff.mp hx).1
      omega
    have rx := (rows i x hx).mono b.ex
    obtain ⟨pr, rfl, hpr⟩ := rx
    obtain ⟨pt, ts, rfl, hpt, lt, rowt⟩ := (ht.mono b.ex).get
    refine ⟨_, rfl, .inl ⟨rfl, _, SqL.of b.at_⟩, 3, rfl, by decide, by decide, fun D nD => ?_⟩
    refine lc_range (n := 3) (fun j H2 => ∃ M2, Build M' H' D ((List.range j).map fun j' => V.int (dotE s t i j')) M2 H2) ⟨M', Build.start b.inn nD⟩ ?_ ?_
    · rintro j H2 hj ⟨M2, b2⟩
      refine ⟨rfl, yes_if ?_⟩
      refine ⟨3, rfl, by decide, by decide, fun D2 nD2 => ?_⟩
      refine lc_range (n := 3) (fun k H3 => ∃ M3, Build M2 H2 D2 ((List.range k).map fun k' => V.int (mulE s t i j k')) M3 H3) ⟨M2, Build.start b2.inn nD2⟩ ?_ ?_
      · rintro k H3 hk ⟨M3, b3⟩
        refine ⟨rfl, yes_if ?_⟩
        have hpr3 := b3.inn _ _ (b3.ex _ _ (b2.ex _ _ hpr))
        have hpt3 := b3.inn _ _ (b3.ex _ _ (b2.ex _ _ hpt))
        obtain ⟨u, hu⟩ : ∃ u, ts[k]? = some u := ⟨_, List.getElem?_eq_getElem (by omega)⟩
        obtain ⟨pu, rfl, hpu⟩ := rowt k u hu
        have hpu3 := b3.inn _ _ (b3.ex _ _ (b2.ex _ _ hpu))
        refine ⟨_, rfl, _, rfl, pr, _, _, .int ((mrow s i).getD k 0), rfl, rfl, SqL.of hpr3, at0 (by rw [List.getElem?_map, mrow_at _ _ _ hk]; rfl), ?_⟩
        refine ⟨_, rfl, _, rfl, pt, _, _, .ref pu, rfl, rfl, SqL.of hpt3, at0 hu, ?_⟩
        refine ⟨_, rfl, pu, _, _, .int ((mrow t k).getD j 0), rfl, rfl, SqL.of hpu3, at0 (by rw [List.getElem?_map, mrow_at _ _ _ hj]; rfl), ?_⟩
        refine ⟨_, _, rfl, rfl, big_mul (mrow_b bs _ _) (mrow_b bt _ _), ?_⟩
        refine ⟨_, b3.at_, ?_, M3, ?_⟩
        · rw [List.length_map, List.length_range]
          exact small1000 (by omega)
        · rw [List.range_succ, List.map_append]
          exact b3.push _
      · rintro H3 ⟨M3, b3⟩
        obtain ⟨M4, g4, hD2, _⟩ := b3.done
        have b4 := b2.grow g4
        refine ⟨D2, (List.range 3).map (mulE s t i j), rfl, SqL.of ?_, ?_⟩
        · rw [List.map_map]
          exact g4.inn _ _ hD2
        refine ⟨_, b4.at_, ?_, M4, ?_⟩
        · rw [List.length_map, List.length_range]
          exact small1000 (by omega)
        · rw [List.range_succ, List.map_append]
          exact b4.push _
    · rintro H2 ⟨M2, b2⟩
      obtain ⟨M3, g3, hD, _⟩ := b2.done
      have b3 := b.grow g3
      refine ⟨F, l, _, rfl, rfl, b3.at_, ?_, M3, _, l ++ [.ref D], rfl, b3.push _, ?_, ?_⟩
      · exact small1000 (by omega)
      · rw [List.length_append, lc]
        rfl
      · intro i' u z
        rw [List.getElem?_append] at z
        split at z
        · exact (rl i' u z).mono g3.ex
        · rename_i h'
          have e : i' = i := by
            have := (List.getElem?_eq_some_iff.mp z).1
            simp at this
            omega
          subst e
          rw [lc, Nat.sub_self] at z
          cases z
          refine ⟨D, rfl, ?_⟩
          rw [← dot_row s t i' hi, List.map_map]
          exact hD
  · rintro σ H' ⟨M', y, l, rfl, b, lc, rl⟩
    obtain ⟨M2, g2, hF, e2⟩ := b.done
    rw [ll] at lc
    match l, lc with
    | [u0, u1, u2], _ =>
      exact ⟨_, rfl, q _ M2 H' g2 ⟨F, u0, u1, u2, rfl, hF, (rl 0 _ rfl).mono e2, (rl 1 _ rfl).mono e2, (rl 2 _ rfl).mono e2⟩⟩
/-! ### one behind another -/
def allT (ts : List T3) : T3 := ts.foldl putT (0, 0, 0)
def SqAll (M : Hp) : List V → List T3 → Prop
  | [], [] => True
  | x :: xs, t :: ts => Sq M x t ∧ SqAll M xs ts
  | _, _ => False
theorem SqAll.mono {M M1 : Hp} (e : Same M M1) : ∀ {xs : List V} {ts : List T3}, SqAll M xs ts → SqAll M1 xs ts
  | [], [], _ => trivial
  | _ :: _, _ :: _, h => ⟨h.1.mono e, SqAll.mono e h.2⟩
  | [], _ :: _, h => h.elim
  | _ :: _, [], h => h.elim
theorem SqAll.len {M : Hp} : ∀ {xs : List V} {ts : List T3}, SqAll M xs ts → xs.length = ts.length
  | [], [], _ => rfl
  | _ :: _, _ :: _, k => congrArg (· + 1) (SqAll.len k.2)
  | [], _ :: _, k => k.elim
  | _ :: _, [], k => k.elim
theorem SqAll.get {M : Hp} : ∀ {xs : List V} {ts : List T3}, SqAll M xs ts → ∀ {i : Nat} {x : V}, xs[i]? = some x → ∃ t, ts[i]? = some t ∧ Sq M x t
  | [], [], _, i, x, h => by simp at h
  | y :: _, s :: _, k, 0, x, h => by
    simp at h
    subst h
    exact ⟨s, rfl, k.1⟩
  | _ :: _, _ :: _, k, i + 1, x, h => SqAll.get k.2 (i := i) h
  | [], _ :: _, k, _, _, _ => k.elim
  | _ :: _, [], k, _, _, _ => k.elim
def spAll : Sp := sp1 fun x H Q => ∃ M p xs ts, Same M H ∧ x = .ref p ∧ M p = some (.lst xs) ∧ SqAll M xs ts ∧ (∀ t ∈ ts, Sm t) ∧ (∀ k, k ≤ ts.length → Sm (allT (ts.take k))) ∧ NewT M H (allT ts) Q
theorem ok_l_all (T : Txt K w mg a) : FnOk P w K mg base CX0 2 a.f_l_all a.d_l_all ["_law_squares"] spAll := by
  refine T.F_l_all.ok sc_l_all (len1 rfl) (fun cdv A outer s0 H vs Q E hr h => ?_)
  obtain ⟨_, rfl, M, p, xs, ts, hM, rfl, hp, al, b1, b2, q⟩ := h
  refine ⟨_, (pss_cons (ps_set (i := 1) sc_l_all.nd rfl (.inl rfl) (pe_lst (pa_cons (pe_lst (pa_cons pe_int (pa_cons pe_int (pa_cons pe_int pa_nil)))) (pa_cons (pe_lst (pa_cons pe_int (pa_cons pe_int (pa_cons pe_int pa_nil)))) (pa_cons (pe_lst (pa_cons pe_int (pa_cons pe_int (pa_cons pe_int pa_nil)))) pa_nil)))))
      (pss_cons (ps_for PassesOwn.never rfl (pi_list (pv 0)) (pg_name (i := 2) sc_l_all.nd rfl (.inl rfl))
      (pss_one (ps_set (i := 1) sc_l_all.nd rfl (.inl rfl) (pe_call (ok_l_times T) (hr.mono (by decide)) (by rfl) T.g_l_times T.F_l_times.kp T.b_l_times .nil pass0 (pa_cons (pv 1) (pa_cons (pv 2) pa_nil))))))
      (pss_one (ps_ret (pe_tup (pa_cons (pe_ix ix_list (pe_ix ix_list (pv 1) pe_int (fun _ _ => rfl)) pe_int (fun _ _ => rfl)) (pa_cons (pe_ix ix_list (pe_ix ix_list (pv 1) pe_int (fun _ _ => rfl)) pe_int (fun _ _ => rfl)) (pa_cons (pe_ix ix_list (pe_ix ix_list (pv 1) pe_int (fun _ _ => rfl)) pe_int (fun _ _ => rfl)) pa_nil)))))))), ?_⟩
  refine ⟨szL rfl, fun p1 pn1 => ?_⟩
  generalize e1 : upd H p1 _ = H1
  obtain ⟨M1, g1, hp1⟩ := new_of e1 hM pn1
  refine ⟨szL rfl, fun p2 pn2 => ?_⟩
  generalize e2 : upd H1 p2 _ = H2
  obtain ⟨M2, g2, hp2⟩ := new_of e2 g1.inn pn2
  refine ⟨szL rfl, fun p3 pn3 => ?_⟩
  generalize e3 : upd H2 p3 _ = H3
  obtain ⟨M3, g3, hp3⟩ := new_of e3 g2.inn pn3
  refine ⟨szL rfl, fun p4 pn4 => ?_⟩
  generalize e4 : upd H3 p4 _ = H4
  obtain ⟨M4, g4, hp4⟩ := new_of e4 g3.inn pn4
  have r0 : RowAt M1 (.ref p1) (mrow (0, 0, 0) 0) := ⟨p1, rfl, hp1⟩
  have r1 : RowAt M2 (.ref p2) (mrow (0, 0, 0) 1) := ⟨p2, rfl, hp2⟩
  have r2 : RowAt M3 (.ref p3) (mrow (0, 0, 0) 2) := ⟨p3, rfl, hp3⟩
  have sq : Sq M4 (.ref p4) (0, 0, 0) := ⟨p4, _, _, _, rfl, hp4, ((r0.mono g2.ex).mono g3.ex).mono g4.ex, (r1.mono g3.ex).mono g4.ex, r2.mono g4.ex⟩
  have g := ((g1.trans g2).trans g3).trans g4
  refine ⟨_, rfl, p, rfl, ⟨_, SqL.of (g.inn _ _ (g.ex _ _ hp))⟩, ?_⟩
  refine for_list (xs := xs) (fun i σ H' => ∃ M' y u, σ = [some (.ref p), some u, y] ∧ Gr M H M' H' ∧ Sq M' u (allT (ts.take i))) ⟨M4, none, _, rfl, g, sq⟩ ?_ ?_ ?_
  · rintro i σ H' hi ⟨M', y, u, rfl, g, _⟩
    exact SqL.of (g.inn _ _ (g.ex _ _ hp))
  · rintro i x σ H' hx ⟨M', y, u, rfl, g, su⟩
    obtain ⟨t, et, st⟩ := al.get hx
    have hi : i < ts.length := (List.getElem?_eq_some_iff.mp et).1
    refine ⟨_, rfl, _, rfl, _, _, rfl, M', _, t, g.inn, su, st.mono g.ex, b2 i (by omega), b1 t (List.mem_of_getElem? et), fun r M2 H2 g2 k2 => ?_⟩
    refine ⟨M2, _, r, rfl, g.trans g2, ?_⟩
    rw [List.take_add_one, et]
    unfold allT
    rw [List.foldl_append]
    exact k2
  · rintro σ H' ⟨M', y, u, rfl, g, su⟩
    rw [al.len, List.take_length] at su
    obtain ⟨pu, u0, u1, u2, rfl, hu, ⟨q0, rfl, k0⟩, ⟨q1, rfl, k1⟩, ⟨q2, rfl, k2⟩⟩ := su
    refine ⟨_, rfl, pu, _, 0, _, rfl, rfl, SqL.of (g.inn _ _ hu), rfl, q0, _, 1, _, rfl, rfl, SqL.of (g.inn _ _ k0), rfl, ?_⟩
    refine ⟨_, rfl, pu, _, 1, _, rfl, rfl, SqL.of (g.inn _ _ hu), rfl, q1, _, 2, _, rfl, rfl, SqL.of (g.inn _ _ k1), rfl, ?_⟩
    refine ⟨_, rfl, pu, _, 0, _, rfl, rfl, SqL.of (g.inn _ _ hu), rfl, q0, _, 2, _, rfl, rfl, SqL.of (g.inn _ _ k0), rfl, ?_⟩
    exact trip_next (t := allT ts) g.inn fun r M2 H2 g2 k => q r M2 H2 (g.trans g2) k
end

end K63

namespace K63
open PySem PySem.Spec PyProof.Rows L2 Own
section
variable {P : Program} {w : World} {K : PySem.W.Frag} {mg : Str → Option Value} {base : Heap} {a : Ad}
/-! ### bounds of many -/
def B2 (n m : Nat) (t : T3) : Prop := t.1.natAbs ≤ n ∧ t.2.1.natAbs ≤ n ∧ t.2.2.natAbs ≤ m
theorem all_snoc (ts : List T3) (t : T3) : allT (ts ++ [t]) = putT (allT ts) t := by
  unfold allT
  rw [List.foldl_append]
  rfl
theorem all_b2 {n m : Nat} : ∀ k (ts : List T3), ts.length = k → (∀ t ∈ ts, B2 n m t) → B2 (k * n) (k * (m + k * n * n)) (allT ts)
  | 0, ts, hl, _ => by
    rw [List.length_eq_zero_iff.mp hl]
    exact ⟨Nat.zero_le _, Nat.zero_le _, Nat.zero_le _⟩
  | k + 1, ts, hl, h => by
    obtain ⟨us, t, rfl⟩ : ∃ us t, ts = us ++ [t] := ⟨ts.dropLast, ts.getLast (by intro e; rw [e] at hl; simp at hl), (List.dropLast_concat_getLast _).symm⟩
    have ih := all_b2 k us (by simpa using hl) fun t ht => h t (List.mem_append.mpr (.inl ht))
    have ht := h t (List.mem_append.mpr (.inr (List.mem_singleton.mpr rfl)))
    rw [all_snoc]
    obtain ⟨i1, i2, i3⟩ := ih
    obtain ⟨h1, h2, h3⟩ := ht
    have z := na_mul i1 h2
    have e1 : (k + 1) * n = k * n + n := by rw [Nat.succ_mul]
    have e2 : (k + 1) * (m + (k + 1) * n * n) = k * (m + (k + 1) * n * n) + (m + (k + 1) * n * n) := by rw [Nat.succ_mul]
    have e3 : k * (m + k * n * n) ≤ k * (m + (k + 1) * n * n) := Nat.mul_le_mul_left _ (Nat.add_le_add_left (Nat.mul_le_mul_right _ (Nat.mul_le_mul_right _ (Nat.le_succ _))) _)
    have e4 : k * n * n ≤ (k + 1) * n * n := Nat.mul_le_mul_right _ (Nat.mul_le_mul_right _ (Nat.le_succ _))
    refine ⟨?_, ?_, ?_⟩ <;> simp only [putT] <;> omega
theorem B2.sm {n m : Nat} {t : T3} (h : B2 n m t) (hn : n ≤ 10 ^ 299) (hm : m ≤ 10 ^ 299) : Sm t :=
  ⟨Nat.lt_of_le_of_lt (Nat.le_trans h.1 hn) (by decide +kernel), Nat.lt_of_le_of_lt (Nat.le_trans h.2.1 hn) (by decide +kernel), Nat.lt_of_le_of_lt (Nat.le_trans h.2.2 hm) (by decide +kernel)⟩
theorem all_sm {ts : List T3} (h : ∀ t ∈ ts, B2 (10 ^ 40) (10 ^ 90) t) (hl : ts.length ≤ 8) : (∀ t ∈ ts, Sm t) ∧ ∀ k, k ≤ ts.length → Sm (allT (ts.take k)) := by
  refine ⟨fun t ht => (h t ht).sm (by decide +kernel) (by decide +kernel), fun k hk => ?_⟩
  have e : (ts.take k).length = k := by rw [List.length_take]; omega
  have b := all_b2 k (ts.take k) e fun t ht => h t (List.mem_of_mem_take ht)
  have hk8 : k ≤ 8 := by omega
  refine b.sm (Nat.le_trans (Nat.mul_le_mul_right _ hk8) (by decide +kernel)) ?_
  exact Nat.le_trans (Nat.mul_le_mul hk8 (Nat.add_le_add_left (Nat.mul_le_mul_right _ (Nat.mul_le_mul_right _ hk8)) _)) (by decide +kernel)
theorem all2 (s t : T3) : allT [s, t] = putT s t := by
  show putT (putT (0, 0, 0) s) t = _
  have : putT (0, 0, 0) s = s := by
    simp [putT]
  rw [this]
theorem all_off (s : T3) : allT [s, offT s] = (0, 0, 0) := by
  rw [all2]
  simp only [putT, offT, Prod.mk.injEq]
  refine ⟨by omega, by omega, by grind⟩
theorem off_all (s : T3) : allT [offT s, s] = (0, 0, 0) := by
  rw [all2]
  simp only [putT, offT, Prod.mk.injEq]
  refine ⟨by omega, by omega, by grind⟩
theorem all_gap (s t : T3) : allT [s, t, offT s, offT t] = (0, 0, gapT s t) := by
  show putT (putT (allT [s, t]) (offT s)) (offT t) = _
  rw [all2]
  simp only [putT, offT, gapT, Prod.mk.injEq]
  refine ⟨by omega, by omega, by grind⟩
/-! ### rows of moves and of triples -/
def MvsL (C : Addr) (M : Hp) (ts : List T3) (l : List V) : Prop := ∀ (i : Nat) (u : V), l[i]? = some u → ∃ t, ts[i]? = some t ∧ Mv C M u t
def TripsL (M : Hp) (ts : List T3) (l : List V) : Prop := l.length ≤ ts.length ∧ ∀ (i : Nat) (u : V), l[i]? = some u → ∃ t, ts[i]? = some t ∧ TripAt M u t
theorem TripsL.mono {M M1 : Hp} {ts : List T3} {l : List V} (h : TripsL M ts l) (e : Same M M1) : TripsL M1 ts l :=
  ⟨h.1, fun i u z => let ⟨t, a, b⟩ := h.2 i u z; ⟨t, a, b.mono e⟩⟩
theorem TripsL.snoc {M : Hp} {ts : List T3} {l : List V} {u : V} {t : T3} (h : TripsL M ts l) (e : ts[l.length]? = some t) (k : TripAt M u t) : TripsL M ts (l ++ [u]) := by
  have := (List.getElem?_eq_some_iff.mp e).1
  refine ⟨by rw [List.length_append]; exact this, fun i x z => ?_⟩
  rw [List.getElem?_append] at z
  split at z
  · exact h.2 i x z
  · have e2 : i = l.length := by
      have := (List.getElem?_eq_some_iff.mp z).1
      simp at this
      omega
    subst e2
    rw [Nat.sub_self] at z
    cases z
    exact ⟨t, e, k⟩
theorem TripsL.dp {M : Hp} : ∀ {ts : List T3} {l : List V}, TripsL M ts l → l.length = ts.length → DpAll K M l (ts.map dT)
  | [], [], _, _ => .nil
  | t :: ts, x :: l, h, hl => by
    obtain ⟨t', e, k⟩ := h.2 0 x rfl
    cases e
    refine .cons k.dp (TripsL.dp ⟨by simpa using h.1, fun i u z => ?_⟩ (by simpa using hl))
    obtain ⟨t', e, k⟩ := h.2 (i + 1) u z
    exact ⟨t', e, k⟩
  | [], _ :: _, _, hl => by simp at hl
  | _ :: _, [], _, hl => by simp at hl
theorem lc_three {C p D : Addr} {n : Nat} {σ : L2.St} {M H : Hp} {us : List V} {ts : List T3} {Qd : Hp → Prop} (hs : ∀ x : V, ((wipe σ [n]).set n (some x))[n]? = some (some x)) (hw : ∀ x : V, wipe ((wipe σ [n]).set n (some x)) [n] = wipe σ [n])
    (hM : Same M H) (hp : M p = some (.lst us)) (mv : MvsL C M ts us) (hl : us.length = ts.length) (hl2 : ts.length ≤ 100) (nD : H D = none)
    (q : ∀ M' H' l, Gr M H M' H' → M' D = some (.lst l) → TripsL M' ts l → l.length = ts.length → Qd H') :
    ∃ W : Nat → Nat → Hp → Prop, (∃ m, W 0 m (upd H D (.lst []))) ∧ ∀ i m H, W i m H →
      ((Itl K p).stop i H ∧ Qd H) ∨ ((Itl K p).go i H ∧ ∃ Nx : Hp → Prop, (∀ H', Nx H' → ∃ m', m' < m ∧ W (i + 1) m' H') ∧ ∀ x H', (Itl K p).yld i H x H' → gName n x (wipe σ [n]) H' fun σ2 H2 => wipe σ2 [n] = wipe σ [n] ∧ tYes σ2 H2 fun b H3 =>
        if b = true then tCall (spTriple C) [] E0 (tCons (tVar n) tNil) σ2 H3 fun y H4 => ∃ acc, H4 D = some (.lst acc) ∧ acc.length < sizeLine ∧ Nx (upd H4 D (.lst (acc ++ [y]))) else Nx H3) := by
  refine lc_list (xs := us) (fun i H' => ∃ M' l, Build M H D l M' H' ∧ l.length = i ∧ TripsL M' ts l) ⟨M, [], Build.start hM nD, rfl, Nat.zero_le _, fun i u z => by simp at z⟩ ?_ ?_ ?_
  · rintro i H' hi ⟨M', l, b, _⟩
    exact SqL.of (b.inn _ _ (b.ex _ _ hp))
  · rintro i x H' hx ⟨M', l, b, li, tl⟩
    obtain ⟨t, et, k⟩ := mv i x hx
    have hi : i < us.length := (List.getElem?_eq_some_iff.mp hx).1
    refine ⟨hw x, yes_if ?_⟩
    refine ⟨x, hs x, _, rfl, M', t, b.inn, k.mono b.ex, fun r M2 H2 g2 k2 => ?_⟩
    have b2 := b.grow g2
    refine ⟨_, b2.at_, small1000 (by omega), M2, _, b2.push _, ?_, (tl.mono g2.ex).snoc (by rw [li]; exact et) k2⟩
    rw [List.length_append, li]
    rfl
  · rintro H' ⟨M', l, b, li, tl⟩
    obtain ⟨M2, g2, hD, e2⟩ := b.done
    exact q M2 H' l g2 hD (tl.mono e2) (by omega)
theorem eqv_sh {d : PyData} (h : SeqAt.shaped d = true) : PyData.eqv d d = true := SeqAt.eqv_refl d (SeqAt.canLay_of_shaped h)
end

end K63

namespace K63
open PySem PySem.Spec PyProof.Rows L2 Own
section
variable {P : Program} {w : World} {K : PySem.W.Frag} {mg : Str → Option Value} {base : Heap} {a : Ad}
def ordT (t : T3) : V := if t = (0, 0, 0) then .int 1 else .non
theorem plain_k (T : Txt K w mg a) (H : Hp) : TripK K H (.ref a.A_PLAIN) (0, 0, 0) := ⟨_, rfl, T.t_PLAIN H⟩
def spOrderM (C : Addr) : Sp := sp1 fun x H Q => ∃ M t, Same M H ∧ Mv C M x t ∧ ∀ M' H', Gr M H M' H' → Q (ordT t) H'
theorem ok_move_order (T : Txt K w mg a) : FnOk P w K mg base CX0 6 a.f_move_order a.d_move_order ["one"] (spOrderM a.C_Move) := by
  refine T.F_move_order.ok sc_move_order (len1 rfl) (fun cdv A outer s H vs Q E hr h => ?_)
  obtain ⟨_, rfl, M, t, hM, h1, q⟩ := h
  refine ⟨_, (pss_cons (ps_expr (pe_call (ok_check_move T) (hr.mono (by decide)) (by rfl) T.g_check_move T.F_check_move.kp T.b_check_move .nil pass0 (pa_cons (pv 0) pa_nil)))
      (pss_one (ps_ret (pe_ifExp (pt_cmpR (op_eqD (hr.mono (Nat.zero_le _)).units) (pe_call (ok_triple T) (hr.mono (by decide)) (by rfl) T.g_triple T.F_triple.kp T.b_triple .nil pass0 (pa_cons (pv 0) pa_nil)) (pe_glob (v := .ref a.A_PLAIN) (by rfl) T.g_PLAIN rfl) (nomark _)) pe_int pe_non)))), _, rfl, _, rfl, t, h1.mono hM, ?_⟩
  refine ⟨_, rfl, _, rfl, M, t, hM, h1, fun r1 M1 H1 g1 k1 => ?_⟩
  refine ⟨_, _, (k1.mono g1.inn).dp, (plain_k T H1).dp, sh_dT _, sh_dT _, _, rfl, ?_⟩
  rw [eqv_dT]
  have q1 := q M1 H1 g1
  refine ite2 (fun e => ?_) (fun e => ?_)
  · have e1 := of_decide_eq_true e
    unfold ordT at q1
    rw [if_pos e1] at q1
    exact q1
  · have e1 : ¬ t = (0, 0, 0) := fun z => e (decide_eq_true z)
    unfold ordT at q1
    rw [if_neg e1] at q1
    exact q1
/-! ### walks -/
def stepT (c : Nat) : T3 := if c = 101 then (1, 0, 0) else if c = 110 then (0, 1, 0) else if c = 119 then (-1, 0, 0) else (0, -1, 0)
def isStep (c : Nat) : Prop := c = 101 ∨ c = 110 ∨ c = 119 ∨ c = 115
def walkT (z : List Nat) : T3 := (z.map stepT).foldl putT (0, 0, 0)
theorem step_k (T : Txt K w mg a) {c : Nat} (h : isStep c) : ∃ u, PySem.W.nsIn K a.A_STEPS ⟨#[c]⟩ = some (some (.ref u)) ∧ ∀ H, TripK K H (.ref u) (stepT c) := by
  rcases h with rfl | rfl | rfl | rfl
  · exact ⟨_, T.s_e, fun H => ⟨_, rfl, T.ts_e H⟩⟩
  · exact ⟨_, T.s_n, fun H => ⟨_, rfl, T.ts_n H⟩⟩
  · exact ⟨_, T.s_w, fun H => ⟨_, rfl, T.ts_w H⟩⟩
  · exact ⟨_, T.s_s, fun H => ⟨_, rfl, T.ts_s H⟩⟩
theorem i_str {H : Hp} (z : Str) : TyX K H (.str z) (.type "str") := .base (.str z)
theorem walk_b (l : List Nat) (hl : l.length ≤ 300) : B (10 ^ 6) (walkT l) := by
  have hs : ∀ t ∈ l.map stepT, B2 1 0 t := by
    intro t ht
    obtain ⟨c, _, rfl⟩ := List.mem_map.mp ht
    unfold stepT
    split
    · exact ⟨by decide, by decide, by decide⟩
    · split
      · exact ⟨by decide, by decide, by decide⟩
      · split
        · exact ⟨by decide, by decide, by decide⟩
        · exact ⟨by decide, by decide, by decide⟩
  have b := all_b2 l.length (l.map stepT) (by rw [List.length_map]) hs
  have e : walkT l = allT (l.map stepT) := rfl
  rw [e]
  obtain ⟨b1, b2, b3⟩ := b
  have z : l.length * (0 + l.length * 1 * 1) ≤ 300 * 300 := Nat.mul_le_mul hl (by omega)
  exact ⟨by omega, by omega, Nat.le_trans b3 (Nat.le_trans z (by decide))⟩
theorem step_sm (c : Nat) : Sm (stepT c) := by
  unfold stepT
  split
  · exact ⟨by decide +kernel, by decide +kernel, by decide +kernel⟩
  · split
    · exact ⟨by decide +kernel, by decide +kernel, by decide +kernel⟩
    · split
      · exact ⟨by decide +kernel, by decide +kernel, by decide +kernel⟩
      · exact ⟨by decide +kernel, by decide +kernel, by decide +kernel⟩
def spMadeK (K : PySem.W.Frag) (C : Addr) : Sp := sp1 fun x H Q => ∃ M t, Same M H ∧ TripK K H x t ∧ New3 C M H t Q
theorem made_moveK (T : Txt K w mg a) : FnOk P w K mg base CX0 5 a.f_made_move a.d_made_move ["numbers"] (spMadeK K a.C_Move) := by
  refine T.F_made_move.ok sc_made_move (len1 rfl) (fun cdv A outer s H vs Q E hr h => ?_)
  obtain ⟨_, rfl, M, t, hM, k1, q⟩ := h
  exact ⟨_, (pss_one (ps_ret (pe_make T.m_Move (ok_Move_init T) (hr.mono (by decide)) (by rfl) T.g_Move T.b_Move_init .nil pass0 (pa_cons (pe_ix ix_tup (pv 0) pe_int (fun _ _ => rfl)) (pa_cons (pe_ix ix_tup (pv 0) pe_int (fun _ _ => rfl)) (pa_cons (pe_ix ix_tup (pv 0) pe_int (fun _ _ => rfl)) pa_nil)))))), _, rfl, rk0 k1 ⟨_, rfl, rk1 k1 ⟨_, rfl, rk2 k1 (mk_move hM q)⟩⟩⟩
def spWalked (C : Addr) : Sp := sp1 fun x H Q => ∃ M z, Same M H ∧ x = .str z ∧ (∀ c ∈ z.cps.toList, isStep c) ∧ z.cps.size ≤ 300 ∧ New3 C M H (walkT z.cps.toList) Q
theorem ok_move_walked (T : Txt K w mg a) : FnOk P w K mg base CX0 6 a.f_move_walked a.d_move_walked ["walk"] (spWalked a.C_Move) := by
  refine T.F_move_walked.ok sc_move_walked (len1 rfl) (fun cdv A outer s H vs Q E hr h => ?_)
  obtain ⟨_, rfl, M, z, hM, rfl, hz, lz, q⟩ := h
  have lz' : z.length ≤ 300 := lz
  refine ⟨_, (pss_cons (ps_if (PW.pt (pw_or (pt_not (pt_val (pe_callB call_isi (by rfl) T.z_isinstance (by decide +kernel) (pa_cons (pv 0) (pa_cons (pe_bltn (v := .ty "str") (by rfl) T.z_str (by decide +kernel) rfl) pa_nil))))) (pw_or (pt_cmpR op_gt (pe_callB call_len_str (by rfl) T.z_len (by decide +kernel) (pa_cons (pv 0) pa_nil)) (pe_glob (v := .int 4000) (by rfl) T.g_MOST_STEPS.choose_spec ⟨_, rfl⟩) (nomark _)) (pw_or1 (pt_not (pt_val (pe_callB (cr_all rfl) (by rfl) T.z_all (by decide +kernel) (pa_cons (pe_lc (own := [("sign", 2)]) (g := gName 2) (tt := tYes) rfl sc_move_walked.nd (pi_str (pv 0)) (blkOk_by (own := [("sign", 2)]) (N := ["walk", "found", "sign"]) (sc := defScope s_move_walked) (by decide +kernel)) (fun _ _ _ _ _ => (pg_name (i := 2) sc_move_walked.nd rfl (.inl rfl))) (fun _ _ _ _ _ => pts_nil) (fun _ _ _ _ _ => (pe_cmpR (op_inTab T.d_STEPS) (pv 2) (pe_glob (v := .ref a.A_STEPS) (by rfl) T.g_STEPS rfl) (by rfl)))) pa_nil))))))))
      (pss_one ps_never) pss_nil)
      (pss_cons (ps_set (i := 1) sc_move_walked.nd rfl (.inl rfl) (pe_glob (v := .ref a.A_PLAIN) (by rfl) T.g_PLAIN rfl))
      (pss_cons (ps_for PassesOwn.never rfl (pi_str (pv 0)) (pg_name (i := 2) sc_move_walked.nd rfl (.inl rfl))
      (pss_one (ps_set (i := 1) sc_move_walked.nd rfl (.inl rfl) (pe_call (ok_put_triples T) (hr.mono (by decide)) (by rfl) T.g_put_triples T.F_put_triples.kp T.b_put_triples .nil pass0 (pa_cons (pv 1) (pa_cons (pe_ix (ix_tab T.d_STEPS) (pe_glob (v := .ref a.A_STEPS) (by rfl) T.g_STEPS rfl) (pv 2) (fun _ _ => rfl)) pa_nil))))))
      (pss_one (ps_ret (pe_call (made_moveK T) (hr.mono (by decide)) (by rfl) T.g_made_move T.F_made_move.kp T.b_made_move .nil pass0 (pa_cons (pv 1) pa_nil))))))), ?_⟩
  refine ⟨_, rfl, _, _, _, _, true, rfl, .ty _, i_str z, kit_ty (by decide +kernel), true, rfl, iteF ?_⟩
  refine ⟨_, rfl, z, rfl, by rw [sizeLine_eq]; omega, _, _, rfl, rfl, false, ?_, iteF ?_⟩
  · show V.bl (decide ((4000 : Int) < (z.length : Int))) = V.bl false
    rw [decide_eq_false (by omega)]
  refine ⟨_, rfl, z, rfl, fun D nD => ?_⟩
  refine lc_it walk_str (fun i H' => ∃ M', Build M H D ((List.replicate i true).map V.bl) M' H') ⟨M, Build.start hM nD⟩ (fun _ _ _ _ => trivial) ?_ ?_
  · rintro i x H1 H1' hi ⟨M1, b⟩ ⟨rfl, c, hc, rfl⟩
    have st : isStep c := hz c (by
      have := Array.mem_of_getElem? hc
      exact Array.mem_toList_iff.mpr this)
    obtain ⟨u, hu, _⟩ := step_k T st
    refine ⟨rfl, yes_if ?_⟩
    refine ⟨_, rfl, _, _, rfl, rfl, hu, ?_⟩
    refine ⟨_, b.at_, ?_, M1, ?_⟩
    · rw [List.length_map, List.length_replicate]
      exact small1000 (by omega)
    · rw [List.replicate_succ', List.map_append]
      exact b.push _
  rintro H1 ⟨M1, b⟩
  obtain ⟨M2, g2, hD, _⟩ := b.done
  refine ⟨D, List.replicate z.cps.size true, rfl, SqL.of (g2.inn _ _ hD), _, rfl, ?_⟩
  have ea : (List.replicate z.cps.size true).all id = true := by
    rw [List.all_eq_true]
    intro y hy
    exact List.eq_of_mem_replicate hy
  rw [ea]
  refine iteF ?_
  -- step by step
  refine ⟨_, rfl, z, rfl, ?_⟩
  refine for_it walk_str (fun i σ H' => ∃ M' y x, σ = [some (.str z), some x, y] ∧ Gr M H M' H' ∧ (∀ M'' H'', Gr M' H' M'' H'' → TripK K H'' x (walkT (z.cps.toList.take i)))) ⟨M2, none, .ref a.A_PLAIN, rfl, g2, fun _ H'' _ => plain_k T H''⟩ (fun _ _ _ _ _ => trivial) ?_ ?_
  · rintro i x σ H3 H3' hi ⟨M3, y, u, rfl, g, ku⟩ ⟨rfl, c, hc, rfl⟩
    have hc' : z.cps.toList[i]? = some c := by rw [Array.getElem?_toList]; exact hc
    obtain ⟨v, hv, kv⟩ := step_k T (hz c (List.mem_of_getElem? hc'))
    have wb := walk_b (z.cps.toList.take i) (by rw [List.length_take, Array.length_toList]; omega)
    refine ⟨_, rfl, _, rfl, _, _, .ref v, rfl, rfl, hv, rfl, ?_⟩
    refine ⟨_, _, rfl, M3, _, _, g.inn, ku M3 H3' (Gr.refl g.inn), kv H3', wb.sm (by decide +kernel), step_sm c, fun r4 M4 H4 g4 k4 => ?_⟩
    refine ⟨M4, _, r4, rfl, g.trans g4, fun M'' H'' g' => ?_⟩
    have e : walkT (z.cps.toList.take (i + 1)) = putT (walkT (z.cps.toList.take i)) (stepT c) := by
      rw [List.take_add_one, hc']
      unfold walkT
      rw [List.map_append, List.foldl_append]
      rfl
    rw [e]
    exact ((k4.mono g'.ex).mono g'.inn).k
  · rintro σ H3 ⟨M3, y, u, rfl, g, ku⟩
    have e : z.cps.toList.take z.cps.size = z.cps.toList := by rw [← Array.length_toList, List.take_length]
    rw [e] at ku
    exact ⟨_, rfl, _, rfl, M3, _, g.inn, ku M3 H3 (Gr.refl g.inn), fun r M4 H4 g4 k4 => q r M4 H4 (g.trans g4) k4⟩
end

end K63

namespace K63
open PySem PySem.Spec PyProof.Rows L2 Own
section
variable {P : Program} {w : World} {K : PySem.W.Frag} {mg : Str → Option Value} {base : Heap} {a : Ad}
theorem B.b2 {n m k : Nat} {t : T3} (h : B n t) (h1 : Nat.ble n m = true) (h2 : Nat.ble n k = true) : B2 m k t :=
  ⟨Nat.le_trans h.1 (Nat.le_of_ble_eq_true h1), Nat.le_trans h.2.1 (Nat.le_of_ble_eq_true h1), Nat.le_trans h.2.2 (Nat.le_of_ble_eq_true h2)⟩
theorem B.offb2 {n : Nat} {t : T3} (h : B n t) (h1 : Nat.ble n (10 ^ 40) = true) (h2 : Nat.ble (n + n * n) (10 ^ 90) = true) : B2 (10 ^ 40) (10 ^ 90) (offT t) := by
  have z1 := Nat.le_of_ble_eq_true h1
  have z2 := h.off.2.2
  have z3 := Nat.le_of_ble_eq_true h2
  obtain ⟨a1, a2, a3⟩ := h
  refine ⟨?_, ?_, Nat.le_trans z2 z3⟩
  · show (0 - t.1).natAbs ≤ _
    omega
  · show (0 - t.2.1).natAbs ≤ _
    omega
theorem mvs1 {C : Addr} {M : Hp} : MvsL C M [] [] := fun i u z => by simp at z
theorem mvsc {C : Addr} {M : Hp} {x : V} {t : T3} {ts : List T3} {xs : List V} (h : Mv C M x t) (k : MvsL C M ts xs) : MvsL C M (t :: ts) (x :: xs) := by
  intro i u z
  match i, z with
  | 0, z => cases z; exact ⟨t, rfl, h⟩
  | i + 1, z => exact k i u z
def spPairR : Sp := sp2 fun x y H Q => ∃ M s t, Same M H ∧ TripAt M x s ∧ TripAt M y t ∧ B (10 ^ 30) s ∧ B (10 ^ 30) t ∧ Say M H true Q
theorem ok_l_pair_right (T : Txt K w mg a) : FnOk P w K mg base CX0 9 a.f_l_pair_right a.d_l_pair_right ["_law_first", "_law_last"] spPairR := by
  refine T.F_l_pair_right.ok sc_l_pair_right (len2 rfl) (fun cdv A outer s0 H vs Q E hr h => ?_)
  obtain ⟨x0, y0, rfl, M, s, t, hM, first, last, bs, bt, q⟩ := h
  have ss : Sm s := bs.sm (by decide +kernel)
  have st : Sm t := bt.sm (by decide +kernel)
  have b2s : B2 (10 ^ 40) (10 ^ 90) s := bs.b2 (by decide +kernel) (by decide +kernel)
  have b2t : B2 (10 ^ 40) (10 ^ 90) t := bt.b2 (by decide +kernel) (by decide +kernel)
  have o2s := bs.offb2 (by decide +kernel) (by decide +kernel)
  have o2t := bt.offb2 (by decide +kernel) (by decide +kernel)
  have two : ∀ x y : T3, B2 (10 ^ 40) (10 ^ 90) x → B2 (10 ^ 40) (10 ^ 90) y → ∀ z ∈ [x, y], B2 (10 ^ 40) (10 ^ 90) z := by
    intro x y hx hy z hz
    simp only [List.mem_cons, List.not_mem_nil, or_false] at hz
    rcases hz with rfl | rfl <;> assumption
  refine ⟨_, (pss_cons (ps_par (by rfl) sc_l_pair_right.nd (i := 2) (j := 3) rfl rfl (by decide) rfl rfl (pa_cons (pe_call (ok_l_move T) (hr.mono (by decide)) (by rfl) T.g_l_move T.F_l_move.kp T.b_l_move .nil pass0 (pa_cons (pv 0) pa_nil)) (pa_cons (pe_call (ok_l_move T) (hr.mono (by decide)) (by rfl) T.g_l_move T.F_l_move.kp T.b_l_move .nil pass0 (pa_cons (pv 1) pa_nil)) pa_nil)) (by rfl))
      (pss_cons (ps_par (by rfl) sc_l_pair_right.nd (i := 4) (j := 5) rfl rfl (by decide) rfl rfl (pa_cons (pe_call (ok_l_square T) (hr.mono (by decide)) (by rfl) T.g_l_square T.F_l_square.kp T.b_l_square .nil pass0 (pa_cons (pv 0) pa_nil)) (pa_cons (pe_call (ok_l_square T) (hr.mono (by decide)) (by rfl) T.g_l_square T.F_l_square.kp T.b_l_square .nil pass0 (pa_cons (pv 1) pa_nil)) pa_nil)) (by rfl))
      (pss_cons (ps_set (i := 6) sc_l_pair_right.nd rfl (.inl rfl) (pe_lst (pa_cons (pe_call (ok_move_then T) (hr.mono (by decide)) (by rfl) T.g_move_then T.F_move_then.kp T.b_move_then .nil pass0 (pa_cons (pv 2) (pa_cons (pv 3) pa_nil))) (pa_cons (pe_callK0 (ok_move_then T) (hr.mono (by decide)) (by rfl) T.g_move_then T.F_move_then.kp T.k_move_then pass0 (pk_cons (pv 3) (pk_cons (pv 2) pk_nil))) (pa_cons (pe_call (ok_move_then T) (hr.mono (by decide)) (by rfl) T.g_move_then T.F_move_then.kp T.b_move_then .nil pass0 (pa_cons (pv 3) (pa_cons (pv 2) pa_nil))) pa_nil)))))
      (pss_cons (ps_if (pt_cmpR (op_neD (hr.mono (Nat.zero_le _)).units) (pe_lc (own := [("_law_each", 12)]) (g := gName 12) (tt := tYes) rfl sc_l_pair_right.nd (pi_list (pv 6)) (blkOk_by (own := [("_law_each", 12)]) (N := ["_law_first", "_law_last", "_law_made", "_law_mate", "_law_near", "_law_far", "_law_told", "_law_back", "_law_gone", "_law_less", "_law_lost", "_law_due", "_law_each"]) (sc := defScope s_l_pair_right) (by decide +kernel)) (fun _ _ _ _ _ => (pg_name (i := 12) sc_l_pair_right.nd rfl (.inl rfl))) (fun _ _ _ _ _ => pts_nil) (fun _ _ _ _ _ => (pe_call (ok_l_three T) (hr.mono (by decide)) (by rfl) T.g_l_three T.F_l_three.kp T.b_l_three .nil pass0 (pa_cons (pv 12) pa_nil)))) (pe_lst (pa_cons (pe_call (ok_l_all T) (hr.mono (by decide)) (by rfl) T.g_l_all T.F_l_all.kp T.b_l_all .nil pass0 (pa_cons (pe_lst (pa_cons (pv 4) (pa_cons (pv 5) pa_nil))) pa_nil)) (pa_cons (pe_call (ok_l_all T) (hr.mono (by decide)) (by rfl) T.g_l_all T.F_l_all.kp T.b_l_all .nil pass0 (pa_cons (pe_lst (pa_cons (pv 4) (pa_cons (pv 5) pa_nil))) pa_nil)) (pa_cons (pe_call (ok_l_all T) (hr.mono (by decide)) (by rfl) T.g_l_all T.F_l_all.kp T.b_l_all .nil pass0 (pa_cons (pe_lst (pa_cons (pv 5) (pa_cons (pv 4) pa_nil))) pa_nil)) pa_nil)))) (nomark _))
      (pss_one (ps_ret pe_bl)) pss_nil)
      (pss_cons (ps_par (by rfl) sc_l_pair_right.nd (i := 7) (j := 8) rfl rfl (by decide) rfl rfl (pa_cons (pe_call (ok_move_undone T) (hr.mono (by decide)) (by rfl) T.g_move_undone T.F_move_undone.kp T.b_move_undone .nil pass0 (pa_cons (pv 2) pa_nil)) (pa_cons (pe_callK0 (ok_move_undone T) (hr.mono (by decide)) (by rfl) T.g_move_undone T.F_move_undone.kp T.k_move_undone pass0 (pk_cons (pv 3) pk_nil)) pa_nil)) (by rfl))
      (pss_cons (ps_par (by rfl) sc_l_pair_right.nd (i := 9) (j := 10) rfl rfl (by decide) rfl rfl (pa_cons (pe_call (ok_l_square T) (hr.mono (by decide)) (by rfl) T.g_l_square T.F_l_square.kp T.b_l_square .nil pass0 (pa_cons (pe_call (ok_l_three T) (hr.mono (by decide)) (by rfl) T.g_l_three T.F_l_three.kp T.b_l_three .nil pass0 (pa_cons (pv 7) pa_nil)) pa_nil)) (pa_cons (pe_call (ok_l_square T) (hr.mono (by decide)) (by rfl) T.g_l_square T.F_l_square.kp T.b_l_square .nil pass0 (pa_cons (pe_call (ok_l_three T) (hr.mono (by decide)) (by rfl) T.g_l_three T.F_l_three.kp T.b_l_three .nil pass0 (pa_cons (pv 8) pa_nil)) pa_nil)) pa_nil)) (by rfl))
      (pss_cons (ps_if (pt_cmpR (op_neD (hr.mono (Nat.zero_le _)).units) (pe_lst (pa_cons (pe_call (ok_l_all T) (hr.mono (by decide)) (by rfl) T.g_l_all T.F_l_all.kp T.b_l_all .nil pass0 (pa_cons (pe_lst (pa_cons (pv 4) (pa_cons (pv 9) pa_nil))) pa_nil)) (pa_cons (pe_call (ok_l_all T) (hr.mono (by decide)) (by rfl) T.g_l_all T.F_l_all.kp T.b_l_all .nil pass0 (pa_cons (pe_lst (pa_cons (pv 10) (pa_cons (pv 5) pa_nil))) pa_nil)) pa_nil))) (pe_op op_rep (pe_lst (pa_cons (pe_tup (pa_cons pe_int (pa_cons pe_int (pa_cons pe_int pa_nil)))) pa_nil)) pe_int) (nomark _))
      (pss_one (ps_ret pe_bl)) pss_nil)
      (pss_cons (ps_set (i := 11) sc_l_pair_right.nd rfl (.inl rfl) (pe_call (ok_l_all T) (hr.mono (by decide)) (by rfl) T.g_l_all T.F_l_all.kp T.b_l_all .nil pass0 (pa_cons (pe_lst (pa_cons (pv 4) (pa_cons (pv 5) (pa_cons (pv 9) (pa_cons (pv 10) pa_nil))))) pa_nil)))
      (pss_one (ps_ret (pe_cmpR (op_eqD (hr.mono (Nat.zero_le _)).units) (pe_lc (own := [("_law_each", 12)]) (g := gName 12) (tt := tYes) rfl sc_l_pair_right.nd (pi_list (pe_lst (pa_cons (pe_call (ok_move_gap T) (hr.mono (by decide)) (by rfl) T.g_move_gap T.F_move_gap.kp T.b_move_gap .nil pass0 (pa_cons (pv 2) (pa_cons (pv 3) pa_nil))) (pa_cons (pe_callK0 (ok_move_gap T) (hr.mono (by decide)) (by rfl) T.g_move_gap T.F_move_gap.kp T.k_move_gap pass0 (pk_cons (pv 3) (pk_cons (pv 2) pk_nil))) pa_nil)))) (blkOk_by (own := [("_law_each", 12)]) (N := ["_law_first", "_law_last", "_law_made", "_law_mate", "_law_near", "_law_far", "_law_told", "_law_back", "_law_gone", "_law_less", "_law_lost", "_law_due", "_law_each"]) (sc := defScope s_l_pair_right) (by decide +kernel)) (fun _ _ _ _ _ => (pg_name (i := 12) sc_l_pair_right.nd rfl (.inl rfl))) (fun _ _ _ _ _ => pts_nil) (fun _ _ _ _ _ => (pe_call (ok_l_three T) (hr.mono (by decide)) (by rfl) T.g_l_three T.F_l_three.kp T.b_l_three .nil pass0 (pa_cons (pv 12) pa_nil)))) (pe_lst (pa_cons (pv 11) (pa_cons (pv 11) pa_nil))) (nomark _)))))))))))), ?_⟩
  refine ⟨_, rfl, _, rfl, M, s, hM, first, fun r1 M1 H1 g1 made => ?_⟩
  replace first := first.mono g1.ex
  replace last := last.mono g1.ex
  refine ⟨_, rfl, _, rfl, M1, t, g1.inn, last, fun r2 M2 H2 g2 mate => ⟨_, _, rfl, ?_⟩⟩
  replace first := first.mono g2.ex
  replace last := last.mono g2.ex
  replace made := made.mono g2.ex
  refine ⟨_, rfl, _, rfl, M2, s, g2.inn, first, fun r3 M3 H3 g3 near => ?_⟩
  replace first := first.mono g3.ex
  replace last := last.mono g3.ex
  replace made := made.mono g3.ex
  replace mate := mate.mono g3.ex
  refine ⟨_, rfl, _, rfl, M3, t, g3.inn, last, fun r4 M4 H4 g4 far => ⟨_, _, rfl, ?_⟩⟩
  replace made := made.mono g4.ex
  replace mate := mate.mono g4.ex
  replace near := near.mono g4.ex
  -- one then the other
  refine ⟨_, rfl, _, rfl, _, _, rfl, M4, s, t, g4.inn, made, mate, ss, st, fun r5 M5 H5 g5 k5 => ?_⟩
  replace made := made.mono g5.ex
  replace mate := mate.mono g5.ex
  replace near := near.mono g5.ex
  replace far := far.mono g5.ex
  refine ⟨_, rfl, _, rfl, _, _, rfl, M5, s, t, g5.inn, made, mate, ss, st, fun r6 M6 H6 g6 k6 => ?_⟩
  replace made := made.mono g6.ex
  replace mate := mate.mono g6.ex
  replace near := near.mono g6.ex
  replace far := far.mono g6.ex
  replace k5 := k5.mono g6.ex
  refine ⟨_, rfl, _, rfl, _, _, rfl, M6, t, s, g6.inn, mate, made, st, ss, fun r7 M7 H7 g7 k7 => ?_⟩
  replace made := made.mono g7.ex
  replace mate := mate.mono g7.ex
  replace near := near.mono g7.ex
  replace far := far.mono g7.ex
  replace k5 := k5.mono g7.ex
  replace k6 := k6.mono g7.ex
  refine ⟨szL rfl, fun p8 pn8 => ?_⟩
  generalize e8 : upd H7 p8 _ = H8
  obtain ⟨M8, g8, hp8⟩ := new_of e8 g7.inn pn8
  replace made := made.mono g8.ex
  replace mate := mate.mono g8.ex
  replace near := near.mono g8.ex
  replace far := far.mono g8.ex
  replace k5 := k5.mono g8.ex
  replace k6 := k6.mono g8.ex
  replace k7 := k7.mono g8.ex
  refine ⟨_, rfl, p8, rfl, ⟨_, SqL.of (g8.inn _ _ hp8)⟩, fun D nD => ?_⟩
  refine lc_three (C := a.C_Move) (n := 12) (ts := [putT s t, putT s t, putT t s]) (fun _ => rfl) (fun _ => rfl) g8.inn hp8 (mvsc k5 (mvsc k6 (mvsc k7 mvs1))) rfl (by show 3 ≤ 100; decide) nD fun M9 H9 l g9 hD tl ll => ?_
  replace made := made.mono g9.ex
  replace mate := mate.mono g9.ex
  replace near := near.mono g9.ex
  replace far := far.mono g9.ex
  replace hD : At M9 D (.lst l) := hD
  refine ⟨_, rfl, _, rfl, ?_⟩
  refine ⟨szL rfl, fun p10 pn10 => ?_⟩
  generalize e10 : upd H9 p10 _ = H10
  obtain ⟨M10, g10, hp10⟩ := new_of e10 g9.inn pn10
  replace made := made.mono g10.ex
  replace mate := mate.mono g10.ex
  replace near := near.mono g10.ex
  replace far := far.mono g10.ex
  replace hD := hD.mono g10.ex
  replace tl := tl.mono g10.ex
  obtain ⟨z1, z2⟩ := all_sm (ts := [s, t]) (two _ _ b2s b2t) (by show 2 ≤ 8; decide)
  obtain ⟨z3, z4⟩ := all_sm (ts := [t, s]) (two _ _ b2t b2s) (by show 2 ≤ 8; decide)
  refine ⟨_, rfl, M10, p10, _, [s, t], g10.inn, rfl, hp10, ⟨near, far, trivial⟩, z1, z2, fun r11 M11 H11 g11 k11 => ?_⟩
  replace made := made.mono g11.ex
  replace mate := mate.mono g11.ex
  replace near := near.mono g11.ex
  replace far := far.mono g11.ex
  replace hD := hD.mono g11.ex
  replace tl := tl.mono g11.ex
  refine ⟨_, rfl, _, rfl, ?_⟩
  refine ⟨szL rfl, fun p12 pn12 => ?_⟩
  generalize e12 : upd H11 p12 _ = H12
  obtain ⟨M12, g12, hp12⟩ := new_of e12 g11.inn pn12
  replace made := made.mono g12.ex
  replace mate := mate.mono g12.ex
  replace near := near.mono g12.ex
  replace far := far.mono g12.ex
  replace hD := hD.mono g12.ex
  replace tl := tl.mono g12.ex
  replace k11 := k11.mono g12.ex
  refine ⟨_, rfl, M12, p12, _, [s, t], g12.inn, rfl, hp12, ⟨near, far, trivial⟩, z1, z2, fun r13 M13 H13 g13 k13 => ?_⟩
  replace made := made.mono g13.ex
  replace mate := mate.mono g13.ex
  replace near := near.mono g13.ex
  replace far := far.mono g13.ex
  replace hD := hD.mono g13.ex
  replace tl := tl.mono g13.ex
  replace k11 := k11.mono g13.ex
  refine ⟨_, rfl, _, rfl, ?_⟩
  refine ⟨szL rfl, fun p14 pn14 => ?_⟩
  generalize e14 : upd H13 p14 _ = H14
  obtain ⟨M14, g14, hp14⟩ := new_of e14 g13.inn pn14
  replace made := made.mono g14.ex
  replace mate := mate.mono g14.ex
  replace near := near.mono g14.ex
  replace far := far.mono g14.ex
  replace hD := hD.mono g14.ex
  replace tl := tl.mono g14.ex
  replace k11 := k11.mono g14.ex
  replace k13 := k13.mono g14.ex
  refine ⟨_, rfl, M14, p14, _, [t, s], g14.inn, rfl, hp14, ⟨far, near, trivial⟩, z3, z4, fun r15 M15 H15 g15 k15 => ?_⟩
  replace made := made.mono g15.ex
  replace mate := mate.mono g15.ex
  replace near := near.mono g15.ex
  replace far := far.mono g15.ex
  replace hD := hD.mono g15.ex
  replace tl := tl.mono g15.ex
  replace k11 := k11.mono g15.ex
  replace k13 := k13.mono g15.ex
  refine ⟨szL rfl, fun p16 pn16 => ?_⟩
  generalize e16 : upd H15 p16 _ = H16
  obtain ⟨M16, g16, hp16⟩ := new_of e16 g15.inn pn16
  replace made := made.mono g16.ex
  replace mate := mate.mono g16.ex
  replace near := near.mono g16.ex
  replace far := far.mono g16.ex
  replace hD := hD.mono g16.ex
  replace tl := tl.mono g16.ex
  replace k11 := k11.mono g16.ex
  replace k13 := k13.mono g16.ex
  replace k15 := k15.mono g16.ex
  rw [all2] at k11 k13 k15
  have dl : Dp K H16 (.ref D) (.list [dT (putT s t), dT (putT s t), dT (putT t s)]) := .lst (SqL.of (g16.inn _ _ hD)) ((tl.mono g16.inn).dp ll)
  have dr : Dp K H16 (.ref p16) (.list [dT (putT s t), dT (putT s t), dT (putT t s)]) :=
    .lst (SqL.of (g16.inn _ _ hp16)) (.cons (k11.mono g16.inn).dp (.cons (k13.mono g16.inn).dp (.cons (k15.mono g16.inn).dp .nil)))
  refine ⟨_, _, dl, dr, rfl, rfl, _, rfl, ?_⟩
  rw [eqv_sh rfl]
  refine iteF ?_
  -- undone
  refine ⟨_, rfl, _, rfl, M16, s, g16.inn, made, ss, fun r17 M17 H17 g17 back => ?_⟩
  replace made := made.mono g17.ex
  replace mate := mate.mono g17.ex
  replace near := near.mono g17.ex
  replace far := far.mono g17.ex
  refine ⟨_, rfl, _, rfl, M17, t, g17.inn, mate, st, fun r18 M18 H18 g18 gone => ⟨_, _, rfl, ?_⟩⟩
  replace made := made.mono g18.ex
  replace mate := mate.mono g18.ex
  replace near := near.mono g18.ex
  replace far := far.mono g18.ex
  replace back := back.mono g18.ex
  refine ⟨_, rfl, _, rfl, M18, _, g18.inn, back, fun r19 M19 H19 g19 k19 => ⟨_, rfl, M19, _, g19.inn, k19, fun r20 M20 H20 g20 less => ?_⟩⟩
  replace made := made.mono g19.ex
  replace mate := mate.mono g19.ex
  replace near := near.mono g19.ex
  replace far := far.mono g19.ex
  replace gone := gone.mono g19.ex
  replace made := made.mono g20.ex
  replace mate := mate.mono g20.ex
  replace near := near.mono g20.ex
  replace far := far.mono g20.ex
  replace gone := gone.mono g20.ex
  refine ⟨_, rfl, _, rfl, M20, _, g20.inn, gone, fun r21 M21 H21 g21 k21 => ⟨_, rfl, M21, _, g21.inn, k21, fun r22 M22 H22 g22 lost => ⟨_, _, rfl, ?_⟩⟩⟩
  replace made := made.mono g21.ex
  replace mate := mate.mono g21.ex
  replace near := near.mono g21.ex
  replace far := far.mono g21.ex
  replace less := less.mono g21.ex
  replace made := made.mono g22.ex
  replace mate := mate.mono g22.ex
  replace near := near.mono g22.ex
  replace far := far.mono g22.ex
  replace less := less.mono g22.ex
  obtain ⟨z5, z6⟩ := all_sm (ts := [s, offT s]) (two _ _ b2s o2s) (by show 2 ≤ 8; decide)
  obtain ⟨z7, z8⟩ := all_sm (ts := [offT t, t]) (two _ _ o2t b2t) (by show 2 ≤ 8; decide)
  refine ⟨_, rfl, _, rfl, ?_⟩
  refine ⟨szL rfl, fun p23 pn23 => ?_⟩
  generalize e23 : upd H22 p23 _ = H23
  obtain ⟨M23, g23, hp23⟩ := new_of e23 g22.inn pn23
  replace made := made.mono g23.ex
  replace mate := mate.mono g23.ex
  replace near := near.mono g23.ex
  replace far := far.mono g23.ex
  replace less := less.mono g23.ex
  replace lost := lost.mono g23.ex
  refine ⟨_, rfl, M23, p23, _, [s, offT s], g23.inn, rfl, hp23, ⟨near, less, trivial⟩, z5, z6, fun r24 M24 H24 g24 k24 => ?_⟩
  replace made := made.mono g24.ex
  replace mate := mate.mono g24.ex
  replace near := near.mono g24.ex
  replace far := far.mono g24.ex
  replace less := less.mono g24.ex
  replace lost := lost.mono g24.ex
  refine ⟨_, rfl, _, rfl, ?_⟩
  refine ⟨szL rfl, fun p25 pn25 => ?_⟩
  generalize e25 : upd H24 p25 _ = H25
  obtain ⟨M25, g25, hp25⟩ := new_of e25 g24.inn pn25
  replace made := made.mono g25.ex
  replace mate := mate.mono g25.ex
  replace near := near.mono g25.ex
  replace far := far.mono g25.ex
  replace less := less.mono g25.ex
  replace lost := lost.mono g25.ex
  replace k24 := k24.mono g25.ex
  refine ⟨_, rfl, M25, p25, _, [offT t, t], g25.inn, rfl, hp25, ⟨lost, far, trivial⟩, z7, z8, fun r26 M26 H26 g26 k26 => ?_⟩
  replace made := made.mono g26.ex
  replace mate := mate.mono g26.ex
  replace near := near.mono g26.ex
  replace far := far.mono g26.ex
  replace less := less.mono g26.ex
  replace lost := lost.mono g26.ex
  replace k24 := k24.mono g26.ex
  refine ⟨szL rfl, fun p27 pn27 => ?_⟩
  generalize e27 : upd H26 p27 _ = H27
  obtain ⟨M27, g27, hp27⟩ := new_of e27 g26.inn pn27
  replace made := made.mono g27.ex
  replace mate := mate.mono g27.ex
  replace near := near.mono g27.ex
  replace far := far.mono g27.ex
  replace less := less.mono g27.ex
  replace lost := lost.mono g27.ex
  replace k24 := k24.mono g27.ex
  replace k26 := k26.mono g27.ex
  rw [all_off] at k24
  rw [off_all] at k26
  refine ⟨szL rfl, fun p28 pn28 => ?_⟩
  generalize e28 : upd H27 p28 _ = H28
  obtain ⟨M28, g28, hp28⟩ := new_of e28 g27.inn pn28
  replace made := made.mono g28.ex
  replace mate := mate.mono g28.ex
  replace near := near.mono g28.ex
  replace far := far.mono g28.ex
  replace less := less.mono g28.ex
  replace lost := lost.mono g28.ex
  replace k24 := k24.mono g28.ex
  replace k26 := k26.mono g28.ex
  replace hp27 := hp27.mono g28.ex
  have k28 : TripAt M28 (.ref p28) (0, 0, 0) := ⟨p28, rfl, hp28⟩
  refine ⟨szL rfl, fun p29 pn29 => ?_⟩
  generalize e29 : upd H28 p29 _ = H29
  obtain ⟨M29, g29, hp29⟩ := new_of e29 g28.inn pn29
  replace made := made.mono g29.ex
  replace mate := mate.mono g29.ex
  replace near := near.mono g29.ex
  replace far := far.mono g29.ex
  replace less := less.mono g29.ex
  replace lost := lost.mono g29.ex
  replace k24 := k24.mono g29.ex
  replace k26 := k26.mono g29.ex
  replace k28 := k28.mono g29.ex
  replace hp27 := hp27.mono g29.ex
  refine ⟨p29, 2, _, rfl, rfl, g29.inn _ _ hp29, by decide, by decide, (by show 1 * 2 ≤ sizeLine; rw [sizeLine_eq]; decide), fun p30 pn30 => ?_⟩
  generalize e30 : upd H29 p30 _ = H30
  obtain ⟨M30, g30, hp30⟩ := new_of e30 g29.inn pn30
  replace made := made.mono g30.ex
  replace mate := mate.mono g30.ex
  replace near := near.mono g30.ex
  replace far := far.mono g30.ex
  replace less := less.mono g30.ex
  replace lost := lost.mono g30.ex
  replace k24 := k24.mono g30.ex
  replace k26 := k26.mono g30.ex
  replace k28 := k28.mono g30.ex
  replace hp27 := hp27.mono g30.ex
  have hp30' : M30 p30 = some (.lst [.ref p28, .ref p28]) := hp30
  have dl2 : Dp K H30 (.ref p27) (.list [dT (0, 0, 0), dT (0, 0, 0)]) := dp2 (g30.inn _ _ hp27) (k24.mono g30.inn).dp (k26.mono g30.inn).dp
  have dr2 : Dp K H30 (.ref p30) (.list [dT (0, 0, 0), dT (0, 0, 0)]) := dp2 (g30.inn _ _ hp30') (k28.mono g30.inn).dp (k28.mono g30.inn).dp
  refine ⟨_, _, dl2, dr2, rfl, rfl, _, rfl, ?_⟩
  rw [eqv_sh rfl]
  refine iteF ?_
  -- gaps
  obtain ⟨z9, z10⟩ := all_sm (ts := [s, t, offT s, offT t]) (by
    intro z hz
    simp only [List.mem_cons, List.not_mem_nil, or_false] at hz
    rcases hz with rfl | rfl | rfl | rfl <;> assumption) (by show 4 ≤ 8; decide)
  refine ⟨_, rfl, _, rfl, _, rfl, _, rfl, ?_⟩
  refine ⟨szL rfl, fun p31 pn31 => ?_⟩
  generalize e31 : upd H30 p31 _ = H31
  obtain ⟨M31, g31, hp31⟩ := new_of e31 g30.inn pn31
  replace made := made.mono g31.ex
  replace mate := mate.mono g31.ex
  replace near := near.mono g31.ex
  replace far := far.mono g31.ex
  replace less := less.mono g31.ex
  replace lost := lost.mono g31.ex
  refine ⟨_, rfl, M31, p31, _, [s, t, offT s, offT t], g31.inn, rfl, hp31, ⟨near, far, less, lost, trivial⟩, z9, z10, fun r32 M32 H32 g32 due => ?_⟩
  rw [all_gap] at due
  replace made := made.mono g32.ex
  replace mate := mate.mono g32.ex
  refine ⟨_, rfl, _, rfl, _, _, rfl, M32, s, t, g32.inn, made, mate, ss, st, fun r33 M33 H33 g33 k33 => ?_⟩
  replace made := made.mono g33.ex
  replace mate := mate.mono g33.ex
  replace due := due.mono g33.ex
  refine ⟨_, rfl, _, rfl, _, _, rfl, M33, s, t, g33.inn, made, mate, ss, st, fun r34 M34 H34 g34 k34 => ?_⟩
  replace due := due.mono g34.ex
  replace k33 := k33.mono g34.ex
  refine ⟨szL rfl, fun p35 pn35 => ?_⟩
  generalize e35 : upd H34 p35 _ = H35
  obtain ⟨M35, g35, hp35⟩ := new_of e35 g34.inn pn35
  replace due := due.mono g35.ex
  replace k33 := k33.mono g35.ex
  replace k34 := k34.mono g35.ex
  refine ⟨p35, rfl, ⟨_, SqL.of (g35.inn _ _ hp35)⟩, fun D2 nD2 => ?_⟩
  refine lc_three (C := a.C_Move) (n := 12) (ts := [(0, 0, gapT s t), (0, 0, gapT s t)]) (fun _ => rfl) (fun _ => rfl) g35.inn hp35 (mvsc k33 (mvsc k34 mvs1)) rfl (by show 2 ≤ 100; decide) nD2 fun M36 H36 l2 g36 hD2 tl2 ll2 => ?_
  replace hD2 : At M36 D2 (.lst l2) := hD2
  replace due := due.mono g36.ex
  refine ⟨_, rfl, _, rfl, ?_⟩
  refine ⟨szL rfl, fun p37 pn37 => ?_⟩
  generalize e37 : upd H36 p37 _ = H37
  obtain ⟨M37, g37, hp37⟩ := new_of e37 g36.inn pn37
  replace due := due.mono g37.ex
  replace hD2 := hD2.mono g37.ex
  replace tl2 := tl2.mono g37.ex
  have dl3 : Dp K H37 (.ref D2) (.list [dT (0, 0, gapT s t), dT (0, 0, gapT s t)]) := .lst (SqL.of (g37.inn _ _ hD2)) ((tl2.mono g37.inn).dp ll2)
  have dr3 : Dp K H37 (.ref p37) (.list [dT (0, 0, gapT s t), dT (0, 0, gapT s t)]) := dp2 (g37.inn _ _ hp37) (due.mono g37.inn).dp (due.mono g37.inn).dp
  refine ⟨_, _, dl3, dr3, rfl, rfl, ?_⟩
  rw [eqv_sh rfl]
  refine q M37 H37 ?_
  exact (((((((((((((((((((((((((((((((((((g1.trans g2).trans g3).trans g4).trans g5).trans g6).trans g7).trans g8).trans g9).trans g10).trans g11).trans g12).trans g13).trans g14).trans g15).trans g16).trans g17).trans g18).trans g19).trans g20).trans g21).trans g22).trans g23).trans g24).trans g25).trans g26).trans g27).trans g28).trans g29).trans g30).trans g31).trans g32).trans g33).trans g34).trans g35).trans (g36.trans g37))
end

end K63

namespace K63
open PySem PySem.Spec PyProof.Rows L2 Own
section
variable {P : Program} {w : World} {K : PySem.W.Frag} {mg : Str → Option Value} {base : Heap} {a : Ad}
theorem all_rep (t : T3) : ∀ k : Nat, allT (List.replicate k t) = powT t (k : Int)
  | 0 => by
    show (0, 0, 0) = _
    rw [show ((0 : Nat) : Int) = 0 from rfl, pow_zero]
  | k + 1 => by
    rw [List.replicate_succ', all_snoc, all_rep t k]
    have := pow_add t (k : Int) 1
    rw [pow_one] at this
    rw [this]
    rfl
theorem tri_neg (k : Int) : triI (-k) = triI k + k := by
  have h1 := tri2 (-k)
  have h2 := tri2 k
  have h3 : (-k) * (-k - 1) = k * (k - 1) + 2 * k := by grind
  omega
theorem pow_off (t : T3) (k : Int) : powT (offT t) k = powT t (-k) := by
  simp only [powT, offT, tri_neg, Prod.mk.injEq]
  refine ⟨by grind, by grind, by grind⟩
theorem tri_mul (x y : Int) : triI (x * y) = triI x * y + triI y * (x * x) := by
  have h1 := tri2 (x * y)
  have h2 := tri2 x
  have h3 := tri2 y
  have h4 : 2 * (triI x * y + triI y * (x * x)) = (x * y) * (x * y - 1) := by grind
  omega
theorem pow_pow (t : T3) (x y : Int) : powT (powT t x) y = powT t (x * y) := by
  simp only [powT, tri_mul, Prod.mk.injEq]
  refine ⟨by grind, by grind, by grind⟩
theorem sq_rep {M : Hp} {x : V} {t : T3} (h : Sq M x t) : ∀ k : Nat, SqAll M (List.replicate k [x]).flatten (List.replicate k t)
  | 0 => trivial
  | k + 1 => by
    rw [List.replicate_succ, List.replicate_succ, List.flatten_cons]
    exact ⟨h, sq_rep h k⟩
theorem sq_len {x : V} (k : Nat) : (List.replicate k [x]).flatten.length = k := by
  simp
def spOftenR : Sp := sp2 fun x y H Q => ∃ v n M t, x = .ref v ∧ Vl v n M H ∧ n + 2 < 1000000 ∧ TripAt M y t ∧ B (10 ^ 30) t ∧ ∀ M' H', Same M M' → Vl v (n + 2) M' H' → Q (.bl true) H'
theorem ok_l_often_right (T : Txt K w mg a) : FnG P w K mg base 9 a.f_l_often_right a.d_l_often_right ["_law_reel_here", "_law_trip_here"] spOftenR := by
  refine okG T.F_l_often_right sc_l_often_right (len2 rfl) (fun cdv A outer s0 H vs Q E hg hr h => ?_)
  obtain ⟨_, y0, rfl, v, n, M, t, rfl, w, hn, trip, bt, q⟩ := h
  have st : Sm t := bt.sm (by decide +kernel)
  have b2t : B2 (10 ^ 40) (10 ^ 90) t := bt.b2 (by decide +kernel) (by decide +kernel)
  have o2t := bt.offb2 (by decide +kernel) (by decide +kernel)
  have bt14 : B (10 ^ 140) t := bt.up (by decide +kernel)
  refine ⟨_, (pss_cons (ps_par (by rfl) sc_l_often_right.nd (i := 2) (j := 3) rfl rfl (by decide) rfl rfl (pa_cons (pe_call (ok_l_move T) (hr.mono (by decide)) (by rfl) T.g_l_move T.F_l_move.kp T.b_l_move .nil pass0 (pa_cons (pv 1) pa_nil)) (pa_cons (pe_call (ok_l_square T) (hr.mono (by decide)) (by rfl) T.g_l_square T.F_l_square.kp T.b_l_square .nil pass0 (pa_cons (pv 1) pa_nil)) pa_nil)) (by rfl))
      (pss_cons (ps_set (i := 4) sc_l_often_right.nd rfl (.inl rfl) (pe_call (ok_l_square T) (hr.mono (by decide)) (by rfl) T.g_l_square T.F_l_square.kp T.b_l_square .nil pass0 (pa_cons (pe_call (ok_l_three T) (hr.mono (by decide)) (by rfl) T.g_l_three T.F_l_three.kp T.b_l_three .nil pass0 (pa_cons (pe_call (ok_move_undone T) (hr.mono (by decide)) (by rfl) T.g_move_undone T.F_move_undone.kp T.b_move_undone .nil pass0 (pa_cons (pv 2) pa_nil)) pa_nil)) pa_nil)))
      (pss_cons (ps_for PassesOwn.never rfl (pi_range2 (by rfl) T.z_range (pa_cons (pe_un un_neg pe_int) (pa_cons pe_int pa_nil))) (pg_name (i := 5) sc_l_often_right.nd rfl (.inl rfl))
      (pss_cons (ps_set (i := 6) sc_l_often_right.nd rfl (.inl rfl) (pe_call (ok_l_all T) (hr.mono (by decide)) (by rfl) T.g_l_all T.F_l_all.kp T.b_l_all .nil pass0 (pa_cons (pe_op op_rep (pe_lst (pa_cons (pe_ifExp (pt_cmpR op_gt (pv 5) pe_int (nomark _)) (pv 3) (pv 4)) pa_nil)) (pe_callB call_abs (by rfl) T.z_abs (by decide +kernel) (pa_cons (pv 5) pa_nil))) pa_nil)))
      (pss_one (ps_if (pt_cmpR (op_neD (hr.mono (Nat.zero_le _)).units) (pe_lst (pa_cons (pe_call (ok_l_three T) (hr.mono (by decide)) (by rfl) T.g_l_three T.F_l_three.kp T.b_l_three .nil pass0 (pa_cons (pe_call (ok_move_often T) (hr.mono (by decide)) (by rfl) T.g_move_often T.F_move_often.kp T.b_move_often .nil pass0 (pa_cons (pv 2) (pa_cons (pv 5) pa_nil))) pa_nil)) (pa_cons (pe_call (ok_l_three T) (hr.mono (by decide)) (by rfl) T.g_l_three T.F_l_three.kp T.b_l_three .nil pass0 (pa_cons (pe_callK0 (ok_move_often T) (hr.mono (by decide)) (by rfl) T.g_move_often T.F_move_often.kp T.k_move_often pass0 (pk_cons (pv 5) (pk_cons (pv 2) pk_nil))) pa_nil)) pa_nil))) (pe_lst (pa_cons (pv 6) (pa_cons (pv 6) pa_nil))) (nomark _))
      (pss_one (ps_ret pe_bl)) pss_nil))))
      (pss_cons (ps_par (by rfl) sc_l_often_right.nd (i := 7) (j := 8) rfl rfl (by decide) rfl rfl (pa_cons (pe_call (ok_l_one_of T) (hr.mono (by decide)) (by rfl) T.g_l_one_of T.F_l_one_of.kp T.b_l_one_of .nil pass0 (pa_cons (pv 0) (pa_cons (pe_lst (pa_cons pe_int (pa_cons (pe_op op_pow pe_int pe_int) (pa_cons (pe_op op_add (pe_op op_pow pe_int pe_int) pe_int) pa_nil)))) pa_nil))) (pa_cons (pe_call (ok_l_one_of T) (hr.mono (by decide)) (by rfl) T.g_l_one_of T.F_l_one_of.kp T.b_l_one_of .nil pass0 (pa_cons (pv 0) (pa_cons (pe_lst (pa_cons pe_int (pa_cons (pe_op op_sub pe_int (pe_op op_pow pe_int pe_int)) (pa_cons pe_int (pa_cons (pe_op op_sub pe_int pe_int) pa_nil))))) pa_nil))) pa_nil)) (by rfl))
      (pss_cons (ps_if (pt_cmpR (op_neOwn T.e_Move (ok_Move_eq T) (hr.mono (by decide)) T.b_Move_eq pass0) (pe_call (ok_move_then T) (hr.mono (by decide)) (by rfl) T.g_move_then T.F_move_then.kp T.b_move_then .nil pass0 (pa_cons (pe_call (ok_move_often T) (hr.mono (by decide)) (by rfl) T.g_move_often T.F_move_often.kp T.b_move_often .nil pass0 (pa_cons (pv 2) (pa_cons (pv 7) pa_nil))) (pa_cons (pe_call (ok_move_often T) (hr.mono (by decide)) (by rfl) T.g_move_often T.F_move_often.kp T.b_move_often .nil pass0 (pa_cons (pv 2) (pa_cons (pv 8) pa_nil))) pa_nil))) (pe_call (ok_move_often T) (hr.mono (by decide)) (by rfl) T.g_move_often T.F_move_often.kp T.b_move_often .nil pass0 (pa_cons (pv 2) (pa_cons (pe_op op_add (pv 7) (pv 8)) pa_nil))) (nomark _))
      (pss_one (ps_ret pe_bl)) pss_nil)
      (pss_cons (ps_if (pt_cmpR (op_neOwn T.e_Move (ok_Move_eq T) (hr.mono (by decide)) T.b_Move_eq pass0) (pe_call (ok_move_often T) (hr.mono (by decide)) (by rfl) T.g_move_often T.F_move_often.kp T.b_move_often .nil pass0 (pa_cons (pe_call (ok_move_often T) (hr.mono (by decide)) (by rfl) T.g_move_often T.F_move_often.kp T.b_move_often .nil pass0 (pa_cons (pv 2) (pa_cons (pv 7) pa_nil))) (pa_cons (pe_un un_neg pe_int) pa_nil))) (pe_call (ok_move_often T) (hr.mono (by decide)) (by rfl) T.g_move_often T.F_move_often.kp T.b_move_often .nil pass0 (pa_cons (pv 2) (pa_cons (pe_op op_mulW (pe_un un_neg pe_int) (pv 7)) pa_nil))) (nomark _))
      (pss_one (ps_ret pe_bl)) pss_nil)
      (pss_one (ps_ret (pe_cmpR op_eq (pe_callB (call_repr hg (hr.mono (Nat.zero_le _)).units) (by rfl) T.z_repr (by decide +kernel) (pa_cons (pe_lst (pa_cons (pe_call (ok_move_order T) (hr.mono (by decide)) (by rfl) T.g_move_order T.F_move_order.kp T.b_move_order .nil pass0 (pa_cons (pv 2) pa_nil)) (pa_cons (pe_callK0 (ok_move_order T) (hr.mono (by decide)) (by rfl) T.g_move_order T.F_move_order.kp T.k_move_order pass0 (pk_cons (pv 2) pk_nil)) pa_nil))) pa_nil)) (pe_callB (call_repr hg (hr.mono (Nat.zero_le _)).units) (by rfl) T.z_repr (by decide +kernel) (pa_cons (pe_op op_rep (pe_lst (pa_cons (pe_ifExp (pt_cmpR (op_eqD (hr.mono (Nat.zero_le _)).units) (pv 1) (pe_tup (pa_cons pe_int (pa_cons pe_int (pa_cons pe_int pa_nil)))) (nomark _)) pe_int pe_non) pa_nil)) pe_int) pa_nil)) (nomark _)))))))))), ?_⟩
  refine ⟨_, rfl, _, rfl, M, t, w.inn, trip, fun r1 M1 H1 g1 made => ?_⟩
  have top : Same M M1 := g1.ex
  replace w := w.grow g1
  replace trip := trip.mono g1.ex
  refine ⟨_, rfl, _, rfl, M1, t, w.inn, trip, fun r2 M2 H2 g2 near => ⟨_, _, rfl, ?_⟩⟩
  replace w := w.grow g2
  replace top := top.trans g2.ex
  replace trip := trip.mono g2.ex
  replace made := made.mono g2.ex
  refine ⟨_, rfl, _, rfl, M2, t, w.inn, made, st, fun r3 M3 H3 g3 k3 => ?_⟩
  replace w := w.grow g3
  replace top := top.trans g3.ex
  replace trip := trip.mono g3.ex
  replace made := made.mono g3.ex
  replace near := near.mono g3.ex
  refine ⟨_, rfl, M3, _, w.inn, k3, fun r4 M4 H4 g4 k4 => ?_⟩
  replace w := w.grow g4
  replace top := top.trans g4.ex
  replace trip := trip.mono g4.ex
  replace made := made.mono g4.ex
  replace near := near.mono g4.ex
  refine ⟨_, rfl, M4, _, w.inn, k4, fun r5 M5 H5 g5 back => ?_⟩
  replace w := w.grow g5
  replace top := top.trans g5.ex
  replace trip := trip.mono g5.ex
  replace made := made.mono g5.ex
  replace near := near.mono g5.ex
  refine ⟨_, rfl, -5, 7, rfl, ⟨by decide, by decide, by decide, by decide⟩, ?_⟩
  refine for_range (lo := -5) (n := 12) (fun i σ H' => ∃ M' y5 y6, σ = [some (.ref v), some y0, some r1, some r2, some r5, y5, y6, none, none] ∧ Gr M5 H5 M' H') ⟨M5, none, none, rfl, Gr.refl w.inn⟩ ?_ ?_
  · rintro i σ H6 hi ⟨M6, y5, y6, rfl, g⟩
    obtain ⟨c, ec⟩ : ∃ c : Int, c = -5 + (i : Int) := ⟨_, rfl⟩
    have c5 : c.natAbs ≤ 6 := by omega
    have c50 : c.natAbs ≤ 10 ^ 50 := Nat.le_trans c5 (by decide +kernel)
    rw [← ec]
    have made' := made.mono g.ex
    refine ⟨_, rfl, _, _, rfl, rfl, _, rfl, ite2 (fun e => ?x) (fun e => ?y)⟩
    case' x =>
      have e1 : 0 < c := of_decide_eq_true e
      have sq := near.mono g.ex
      have b2 := b2t
      have ep : powT t (c.natAbs : Int) = powT t c := by rw [show (c.natAbs : Int) = c by omega]
    case' y =>
      have e1 : ¬ 0 < c := fun z => e (decide_eq_true z)
      have sq := back.mono g.ex
      have b2 := o2t
      have ep : powT (offT t) (c.natAbs : Int) = powT t c := by rw [pow_off, show -(c.natAbs : Int) = c by omega]
    all_goals
      refine ⟨_, rfl, ?_⟩
      refine ⟨szL rfl, fun p7 pn7 => ?_⟩
      generalize e7 : upd H6 p7 _ = H7
      obtain ⟨M7, g7, hp7⟩ := new_of e7 g.inn pn7
      replace g := g.trans g7
      replace sq := sq.mono g7.ex
      replace made' := made'.mono g7.ex
      refine ⟨_, rfl, _, rfl, ?_⟩
      rw [abs_abs]
      refine ⟨p7, (c.natAbs : Int), _, rfl, rfl, g.inn _ _ hp7, by omega, by omega, ?_, fun p8 pn8 => ?_⟩
      · rw [Int.toNat_natCast, sizeLine_eq]
        show 1 * c.natAbs ≤ _
        omega
      rw [Int.toNat_natCast]
      generalize e8 : upd H7 p8 _ = H8
      obtain ⟨M8, g8, hp8⟩ := new_of e8 g.inn pn8
      replace g := g.trans g8
      replace sq := sq.mono g8.ex
      replace made' := made'.mono g8.ex
      obtain ⟨z1, z2⟩ := all_sm (ts := List.replicate c.natAbs _) (fun z hz => by rw [List.eq_of_mem_replicate hz]; exact b2) (by rw [List.length_replicate]; omega)
      refine ⟨_, rfl, M8, p8, _, _, g.inn, rfl, hp8, sq_rep sq _, z1, z2, fun r9 M9 H9 g9 due => ?_⟩
      rw [all_rep, ep] at due
      replace g := g.trans g9
      replace made' := made'.mono g9.ex
      refine ⟨_, rfl, _, rfl, _, _, rfl, M9, t, c, g.inn, made', rfl, c50, bt14, fun r10 M10 H10 g10 k10 => ?_⟩
      replace g := g.trans g10
      replace made' := made'.mono g10.ex
      replace due := due.mono g10.ex
      refine ⟨_, rfl, M10, _, g.inn, k10, fun r11 M11 H11 g11 k11 => ?_⟩
      replace g := g.trans g11
      replace made' := made'.mono g11.ex
      replace due := due.mono g11.ex
      refine ⟨_, rfl, _, rfl, _, _, rfl, M11, t, c, g.inn, made', rfl, c50, bt14, fun r12 M12 H12 g12 k12 => ?_⟩
      replace g := g.trans g12
      replace k11 := k11.mono g12.ex
      replace due := due.mono g12.ex
      refine ⟨_, rfl, M12, _, g.inn, k12, fun r13 M13 H13 g13 k13 => ?_⟩
      replace g := g.trans g13
      replace k11 := k11.mono g13.ex
      replace due := due.mono g13.ex
      refine ⟨szL rfl, fun p14 pn14 => ?_⟩
      generalize e14 : upd H13 p14 _ = H14
      obtain ⟨M14, g14, hp14⟩ := new_of e14 g.inn pn14
      replace g := g.trans g14
      replace k11 := k11.mono g14.ex
      replace k13 := k13.mono g14.ex
      replace due := due.mono g14.ex
      refine ⟨_, rfl, _, rfl, ?_⟩
      refine ⟨szL rfl, fun p15 pn15 => ?_⟩
      generalize e15 : upd H14 p15 _ = H15
      obtain ⟨M15, g15, hp15⟩ := new_of e15 g.inn pn15
      replace g := g.trans g15
      replace k11 := k11.mono g15.ex
      replace k13 := k13.mono g15.ex
      replace due := due.mono g15.ex
      replace hp14 := hp14.mono g15.ex
      refine ⟨_, _, dp2 (g.inn _ _ hp14) (k11.mono g.inn).dp (k13.mono g.inn).dp, dp2 (g.inn _ _ hp15) (due.mono g.inn).dp (due.mono g.inn).dp, rfl, rfl, _, rfl, ?_⟩
      rw [eqv_sh rfl]
      exact iteF ⟨M15, _, _, rfl, g⟩
  · rintro σ H6 ⟨M6, y5, y6, rfl, g⟩
    replace w := w.grow g
    replace top := top.trans g.ex
    replace trip := trip.mono g.ex
    replace made := made.mono g.ex
    -- so often, then so often
    refine ⟨_, rfl, _, _, rfl, rfl, ⟨by decide, by decide, by decide⟩, _, _, rfl, rfl, ⟨by decide, by decide, by decide⟩, _, _, rfl, rfl, ?_⟩
    refine ⟨szL rfl, fun p7 pn7 => ?_⟩
    generalize e7 : upd H6 p7 _ = H7
    obtain ⟨M7, g7, hp7⟩ := new_of e7 w.inn pn7
    replace w := w.grow g7
    replace top := top.trans g7.ex
    replace trip := trip.mono g7.ex
    replace made := made.mono g7.ex
    refine ⟨_, _, rfl, v, _, M7, rfl, w, by omega, .inl ⟨p7, _, rfl, hp7, by show 0 < 3; decide, by show 3 < 1000; decide, fun r8 H8 m8 w => ?_⟩⟩
    obtain ⟨L, rfl, bL⟩ : ∃ L : Int, r8 = .int L ∧ L.natAbs ≤ 10 ^ 39 + 5 := by
      simp only [List.mem_cons, List.not_mem_nil, or_false] at m8
      rcases m8 with rfl | rfl | rfl
      all_goals exact ⟨_, rfl, by decide +kernel⟩
    refine ⟨_, rfl, _, _, rfl, rfl, ⟨by decide, by decide, by decide⟩, _, _, rfl, rfl, _, _, rfl, rfl, ?_⟩
    refine ⟨szL rfl, fun p9 pn9 => ?_⟩
    generalize e9 : upd H8 p9 _ = H9
    obtain ⟨M9, g9, hp9⟩ := new_of e9 w.inn pn9
    replace w := w.grow g9
    replace top := top.trans g9.ex
    replace trip := trip.mono g9.ex
    replace made := made.mono g9.ex
    refine ⟨_, _, rfl, v, _, M9, rfl, w, by omega, .inl ⟨p9, _, rfl, hp9, by show 0 < 4; decide, by show 4 < 1000; decide, fun r10 H10 m10 w => ⟨_, _, rfl, ?_⟩⟩⟩
    obtain ⟨R, rfl, bR⟩ : ∃ R : Int, r10 = .int R ∧ R.natAbs ≤ 10 ^ 39 + 5 := by
      simp only [List.mem_cons, List.not_mem_nil, or_false] at m10
      rcases m10 with rfl | rfl | rfl | rfl
      all_goals exact ⟨_, rfl, by decide +kernel⟩
    have bL5 : L.natAbs ≤ 10 ^ 50 := Nat.le_trans bL (by decide +kernel)
    have bR5 : R.natAbs ≤ 10 ^ 50 := Nat.le_trans bR (by decide +kernel)
    have bLR : (L + R).natAbs ≤ 10 ^ 50 := by omega
    have b3L : (-3 * L).natAbs ≤ 10 ^ 50 := by omega
    have pL : B (10 ^ 140) (powT t L) := (bt.pow bL).up (by decide +kernel)
    have pR : B (10 ^ 140) (powT t R) := (bt.pow bR).up (by decide +kernel)
    refine ⟨_, rfl, _, rfl, _, _, rfl, M9, t, L, w.inn, made, rfl, bL5, bt14, fun r11 M11 H11 g11 k11 => ?_⟩
    replace w := w.grow g11
    replace top := top.trans g11.ex
    replace trip := trip.mono g11.ex
    replace made := made.mono g11.ex
    refine ⟨_, rfl, _, rfl, _, _, rfl, M11, t, R, w.inn, made, rfl, bR5, bt14, fun r12 M12 H12 g12 k12 => ?_⟩
    replace w := w.grow g12
    replace top := top.trans g12.ex
    replace trip := trip.mono g12.ex
    replace made := made.mono g12.ex
    replace k11 := k11.mono g12.ex
    refine ⟨_, _, rfl, M12, _, _, w.inn, k11, k12, pL.sm (by decide +kernel), pR.sm (by decide +kernel), fun r13 M13 H13 g13 k13 => ?_⟩
    replace w := w.grow g13
    replace top := top.trans g13.ex
    replace trip := trip.mono g13.ex
    replace made := made.mono g13.ex
    rw [pow_add] at k13
    refine ⟨_, rfl, _, rfl, _, rfl, _, _, rfl, rfl, _, _, rfl, M13, t, _, w.inn, made, rfl, bLR, bt14, fun r14 M14 H14 g14 k14 => ?_⟩
    replace w := w.grow g14
    replace top := top.trans g14.ex
    replace trip := trip.mono g14.ex
    replace made := made.mono g14.ex
    replace k13 := k13.mono g14.ex
    refine ne_move T.o_Move (k13.mono w.inn) (k14.mono w.inn) rfl ((bt.pow bLR).sm (by decide +kernel)) ⟨_, rfl, iteF ?_⟩
    -- so often so often
    refine ⟨_, rfl, _, rfl, _, _, rfl, M14, t, L, w.inn, made, rfl, bL5, bt14, fun r15 M15 H15 g15 k15 => ?_⟩
    replace w := w.grow g15
    replace top := top.trans g15.ex
    replace trip := trip.mono g15.ex
    replace made := made.mono g15.ex
    refine ⟨_, rfl, _, _, rfl, M15, _, -3, w.inn, k15, rfl, by decide +kernel, pL, fun r16 M16 H16 g16 k16 => ?_⟩
    replace w := w.grow g16
    replace top := top.trans g16.ex
    replace trip := trip.mono g16.ex
    replace made := made.mono g16.ex
    rw [pow_pow, show L * -3 = -3 * L by omega] at k16
    refine ⟨_, rfl, _, rfl, _, rfl, _, _, rfl, rfl, big_mul (by decide +kernel) (Nat.lt_of_le_of_lt bL (by decide +kernel)), _, _, rfl, M16, t, _, w.inn, made, rfl, b3L, bt14, fun r17 M17 H17 g17 k17 => ?_⟩
    replace w := w.grow g17
    replace top := top.trans g17.ex
    replace trip := trip.mono g17.ex
    replace made := made.mono g17.ex
    replace k16 := k16.mono g17.ex
    refine ne_move T.o_Move (k16.mono w.inn) (k17.mono w.inn) rfl ((bt.pow b3L).sm (by decide +kernel)) ⟨_, rfl, iteF ?_⟩
    -- the order
    refine ⟨_, rfl, _, rfl, M17, t, w.inn, made, fun M18 H18 g18 => ?_⟩
    replace w := w.grow g18
    replace top := top.trans g18.ex
    replace trip := trip.mono g18.ex
    replace made := made.mono g18.ex
    refine ⟨_, rfl, _, rfl, M18, t, w.inn, made, fun M19 H19 g19 => ?_⟩
    replace w := w.grow g19
    replace top := top.trans g19.ex
    replace trip := trip.mono g19.ex
    replace made := made.mono g19.ex
    by_cases ht : t = (0, 0, 0)
    case' pos =>
      have eo : ordT t = .int 1 := if_pos ht
      have od : ∀ M : Hp, Dp K M (.int 1) (.int 1) := fun _ => .int 1
      have oo : Oky (.int 1) := by show (1 : Int).natAbs < 10 ^ 300; decide +kernel
    case' neg =>
      have eo : ordT t = .non := if_neg ht
      have od : ∀ M : Hp, Dp K M .non .none := fun _ => .non
      have oo : Oky .none := trivial
    all_goals
      rw [eo]
      refine ⟨szL rfl, fun p20 pn20 => ?_⟩
      generalize e20 : upd H19 p20 _ = H20
      obtain ⟨M20, g20, hp20⟩ := new_of e20 w.inn pn20
      replace w := w.grow g20
      replace top := top.trans g20.ex
      replace trip := trip.mono g20.ex
      replace made := made.mono g20.ex
      refine ⟨_, _, rfl, dp2 (w.inn _ _ hp20) (od _) (od _), ok2 oo oo, rfl, rfl, ⟨_, rfl⟩, ?_⟩
      refine ⟨_, rfl, ?_⟩
      refine ⟨szL rfl, fun p21 pn21 => ?_⟩
      generalize e21 : upd H20 p21 _ = H21
      obtain ⟨M21, g21, hp21⟩ := new_of e21 w.inn pn21
      replace w := w.grow g21
      replace top := top.trans g21.ex
      replace trip := trip.mono g21.ex
      replace made := made.mono g21.ex
      have k21 : TripAt M21 (.ref p21) (0, 0, 0) := ⟨p21, rfl, hp21⟩
      refine ⟨_, _, (trip.mono w.inn).dp, (k21.mono w.inn).dp, sh_dT _, sh_dT _, _, rfl, ?_⟩
      rw [eqv_dT]
    case' pos =>
      rw [decide_eq_true ht]
      refine iteT ?_
    case' neg =>
      rw [decide_eq_false ht]
      refine iteF ?_
    all_goals
      refine ⟨szL rfl, fun p22 pn22 => ?_⟩
      generalize e22 : upd H21 p22 _ = H22
      obtain ⟨M22, g22, hp22⟩ := new_of e22 w.inn pn22
      replace w := w.grow g22
      replace top := top.trans g22.ex
      replace trip := trip.mono g22.ex
      replace made := made.mono g22.ex
      refine ⟨p22, 2, _, rfl, rfl, w.inn _ _ hp22, by decide, by decide, (by show 1 * 2 ≤ sizeLine; rw [sizeLine_eq]; decide), fun p23 pn23 => ?_⟩
      generalize e23 : upd H22 p23 _ = H23
      obtain ⟨M23, g23, hp23⟩ := new_of e23 w.inn pn23
      replace w := w.grow g23
      replace top := top.trans g23.ex
      refine ⟨_, _, rfl, dp2 (w.inn _ _ hp23) (od _) (od _), ok2 oo oo, rfl, rfl, ⟨_, rfl⟩, ?_⟩
      refine ⟨rfl, bl_refl ?_⟩
      exact q _ _ top w
end

end K63

namespace K63
open PySem PySem.Spec PyProof.Rows L2 Own
section
variable {P : Program} {w : World} {K : PySem.W.Frag} {mg : Str → Option Value} {base : Heap} {a : Ad}
def rJoinK (K : PySem.W.Frag) : V → List V → Hp → VK → Prop := fun x xs H Q => ∃ a p, ∃ ys : List Str, x = .str a ∧ xs = [.ref p] ∧ (SqL K H p (ys.map V.str) ∨ SqT K H p (ys.map V.str)) ∧
  (ys.map (·.length)).sum + ys.length * a.length ≤ 16777216 ∧ Q (.str (Txt.join a ys)) H
theorem kJoin {X : Cx} {K : PySem.W.Frag} {o e : Expr} {to te : TE} {apos pos : Pos} (ho : PE X o to) (he : PE X e te) (hK : X.K = K := by rfl) (hs : starEach [e] X.env = [(false, eval e X.env)] := by rfl) (hbase : attributeBase o "join" X.env (eval o X.env) = eval o X.env := by rfl) (hline : (apos.endLine == pos.line) = true := by rfl) :
    PE X (.Call (.Attribute o "join" apos) [e] [] pos) (tM1 (rJoinK K) to te) := by
  subst hK
  exact pe_join ho he hs hbase hline
def one1 (c : Nat) : Str := ⟨#[c]⟩
theorem join_l : ∀ l : List Nat, Txt.join ("" : Str) (l.map one1) = ⟨l.toArray⟩ := by
  intro l
  rw [TL.join_eq]
  induction l with
  | nil => rfl
  | cons c l ih =>
    have e : Str.join ("" : Str) (one1 c :: l.map one1) = one1 c ++ Str.join ("" : Str) (l.map one1) := PyProof.Rows.join_nil_cons (one1 c) (l.map one1)
    rw [List.map_cons, e, ih]
    show (⟨#[c] ++ l.toArray⟩ : Str) = _
    congr 1
    apply Array.ext'
    simp
theorem put_assoc (x y z : T3) : putT (putT x y) z = putT x (putT y z) := by
  simp only [putT, Prod.mk.injEq]
  refine ⟨by grind, by grind, by grind⟩
theorem put_0l (x : T3) : putT (0, 0, 0) x = x := by
  obtain ⟨p, q, r⟩ := x
  simp [putT]
theorem put_0r (x : T3) : putT x (0, 0, 0) = x := by
  obtain ⟨p, q, r⟩ := x
  simp [putT]
theorem fold_put : ∀ (l : List T3) (s : T3), l.foldl putT s = putT s (l.foldl putT (0, 0, 0))
  | [], s => (put_0r s).symm
  | t :: l, s => by
    rw [List.foldl_cons, List.foldl_cons, fold_put l (putT s t), fold_put l (putT (0, 0, 0) t), put_0l, put_assoc]
theorem walk_app (x y : List Nat) : walkT (x ++ y) = putT (walkT x) (walkT y) := by
  unfold walkT
  rw [List.map_append, List.foldl_append, fold_put]
theorem walk_cons (c : Nat) (y : List Nat) : walkT (c :: y) = putT (stepT c) (walkT y) := by
  have := walk_app [c] y
  have e : walkT [c] = stepT c := put_0l _
  rw [e] at this
  exact this
def flipC (c : Nat) : Nat := if c = 101 then 119 else if c = 110 then 115 else if c = 119 then 101 else 110
theorem off_put (x y : T3) : offT (putT x y) = putT (offT y) (offT x) := by
  simp only [putT, offT, Prod.mk.injEq]
  refine ⟨by grind, by grind, by grind⟩
theorem walk_back : ∀ l : List Nat, (∀ c ∈ l, isStep c) → walkT (l.reverse.map flipC) = offT (walkT l)
  | [], _ => rfl
  | c :: l, h => by
    have hc : stepT (flipC c) = offT (stepT c) := by
      rcases h c (List.Mem.head _) with rfl | rfl | rfl | rfl <;> decide
    rw [List.reverse_cons, List.map_append, walk_app, walk_back l (fun d hd => h d (List.Mem.tail _ hd)), walk_cons, off_put]
    have e : walkT [flipC c] = stepT (flipC c) := put_0l _
    show putT _ (walkT [flipC c]) = _
    rw [e, hc]
theorem flip_step {c : Nat} (h : isStep c) : isStep (flipC c) := by
  rcases h with rfl | rfl | rfl | rfl <;> (unfold isStep; decide)
theorem step_idx {c : Nat} (h : isStep c) : ∃ k : Nat, Txt.index0 ("enws" : Str) ⟨#[c]⟩ = some k ∧ atI ("wsen" : Str).cps.toList (k : Int) = some (flipC c) := by
  rcases h with rfl | rfl | rfl | rfl
  · exact ⟨0, by decide +kernel, by decide +kernel⟩
  · exact ⟨1, by decide +kernel, by decide +kernel⟩
  · exact ⟨2, by decide +kernel, by decide +kernel⟩
  · exact ⟨3, by decide +kernel, by decide +kernel⟩
theorem walk_three (x : List Nat) : walkT (x ++ (x ++ (x ++ []))) = powT (walkT x) 3 := by
  rw [walk_app, walk_app, walk_app]
  have e : walkT [] = (0, 0, 0) := rfl
  rw [e, put_0r]
  have p2 := pow_add (walkT x) 1 1
  have p3 := pow_add (walkT x) 1 (1 + 1)
  rw [pow_one] at p2 p3
  rw [p2, p3]
  rfl
theorem gap_self (s : T3) : gapT s s = 0 := by
  unfold gapT
  grind
def Stp (l : List Nat) : Prop := (∀ c ∈ l, isStep c) ∧ l.length ≤ 20
def spWalks : Sp := sp1 fun x H Q => ∃ v n M, x = .ref v ∧ Vl v n M H ∧ n + 42 < 1000000 ∧ ∀ M' H', Same M M' → Vl v (n + 42) M' H' → Q (.bl true) H'
theorem ok_l_walks_right (T : Txt K w mg a) : FnOk P w K mg base CX0 9 a.f_l_walks_right a.d_l_walks_right ["_law_reel_here"] spWalks := by
  refine T.F_l_walks_right.ok sc_l_walks_right (len1 rfl) (fun cdv A outer s H vs Q E hr h => ?_)
  obtain ⟨_, rfl, v, n, M, rfl, w, hn, q⟩ := h
  refine ⟨_, (pss_cons (ps_setLc (i := 1) (own := [("_law_side", 5)]) (g := gName 5) (tt := tYes) rfl sc_l_walks_right.nd rfl rfl (sw_true rfl rfl rfl (by decide +kernel)) (pi_range1 (by rfl) T.z_range (pa_cons pe_int pa_nil)) (blkOk_by (own := [("_law_side", 5)]) (N := ["_law_reel_here", "_law_lines", "_law_made", "_law_mate", "_law_back", "_law_side", "_law_spot", "_law_sign"]) (sc := defScope s_l_walks_right) (by decide +kernel)) (fun _ _ _ _ _ => (pg_name (i := 5) sc_l_walks_right.nd rfl (.inl rfl))) (fun _ _ _ _ _ => pts_nil) (fun _ _ _ _ _ => (kJoin (K := K) pe_str (pe_lc (own := [("_law_spot", 6)]) (g := gName 6) (tt := tYes) rfl sc_l_walks_right.nd (pi_range1 (by rfl) T.z_range (pa_cons (pe_call (ok_l_wind T) (hr.mono (by decide)) (by rfl) T.g_l_wind T.F_l_wind.kp T.b_l_wind .nil pass0 (pa_cons (pv 0) (pa_cons pe_int pa_nil))) pa_nil)) (blkOk_by (own := [("_law_spot", 6)]) (N := ["_law_reel_here", "_law_lines", "_law_made", "_law_mate", "_law_back", "_law_side", "_law_spot", "_law_sign"]) (by rfl)) (fun _ _ _ _ _ => (pg_name (i := 6) sc_l_walks_right.nd rfl (.inl rfl))) (fun _ _ _ _ _ => pts_nil) (fun _ _ _ _ _ => (pe_call (ok_l_one_of T) (hr.mono (by decide)) (by rfl) T.g_l_one_of T.F_l_one_of.kp T.b_l_one_of .nil pass0 (pa_cons (pv 0) (pa_cons pe_str pa_nil))))))))
      (pss_cons (ps_par (by rfl) sc_l_walks_right.nd (i := 2) (j := 3) rfl rfl (by decide) rfl rfl (pa_cons (pe_call (ok_move_walked T) (hr.mono (by decide)) (by rfl) T.g_move_walked T.F_move_walked.kp T.b_move_walked .nil pass0 (pa_cons (pe_ix ix_list (pv 1) pe_int (fun _ _ => rfl)) pa_nil)) (pa_cons (pe_call (ok_move_walked T) (hr.mono (by decide)) (by rfl) T.g_move_walked T.F_move_walked.kp T.b_move_walked .nil pass0 (pa_cons (pe_ix ix_list (pv 1) pe_int (fun _ _ => rfl)) pa_nil)) pa_nil)) (by rfl))
      (pss_cons (ps_set (i := 4) sc_l_walks_right.nd rfl (.inl rfl) (kJoin (K := K) pe_str (pe_lc (own := [("_law_sign", 7)]) (g := gName 7) (tt := tYes) rfl sc_l_walks_right.nd (pi_str (pe_revS (pe_ix ix_list (pv 1) pe_int (fun _ _ => rfl)))) (blkOk_by (own := [("_law_sign", 7)]) (N := ["_law_reel_here", "_law_lines", "_law_made", "_law_mate", "_law_back", "_law_side", "_law_spot", "_law_sign"]) (sc := defScope s_l_walks_right) (by decide +kernel)) (fun _ _ _ _ _ => (pg_name (i := 7) sc_l_walks_right.nd rfl (.inl rfl))) (fun _ _ _ _ _ => pts_nil) (fun _ _ _ _ _ => (pe_ix ix_str pe_str (pe_m1 F.slot_str_index F.type_str_index mt_idx pe_str (pv 7)) (fun _ _ => rfl))))))
      (pss_cons (ps_if (PW.pt (pw_or (pt_cmpR (op_neOwn T.e_Move (ok_Move_eq T) (hr.mono (by decide)) T.b_Move_eq pass0) (pe_call (ok_move_then T) (hr.mono (by decide)) (by rfl) T.g_move_then T.F_move_then.kp T.b_move_then .nil pass0 (pa_cons (pv 2) (pa_cons (pv 3) pa_nil))) (pe_call (ok_move_walked T) (hr.mono (by decide)) (by rfl) T.g_move_walked T.F_move_walked.kp T.b_move_walked .nil pass0 (pa_cons (pe_op op_add_str (pe_ix ix_list (pv 1) pe_int (fun _ _ => rfl)) (pe_ix ix_list (pv 1) pe_int (fun _ _ => rfl))) pa_nil)) (nomark _)) (pw_or1 (pt_cmpR (op_neOwn T.e_Move (ok_Move_eq T) (hr.mono (by decide)) T.b_Move_eq pass0) (pe_call (ok_move_undone T) (hr.mono (by decide)) (by rfl) T.g_move_undone T.F_move_undone.kp T.b_move_undone .nil pass0 (pa_cons (pv 2) pa_nil)) (pe_call (ok_move_walked T) (hr.mono (by decide)) (by rfl) T.g_move_walked T.F_move_walked.kp T.b_move_walked .nil pass0 (pa_cons (pv 4) pa_nil)) (nomark _)))))
      (pss_one (ps_ret pe_bl)) pss_nil)
      (pss_one (ps_ret (pe_and (pe_cmpR (op_eqOwn T.e_Move (ok_Move_eq T) (hr.mono (by decide)) T.b_Move_eq pass0) (pe_call (ok_move_gap T) (hr.mono (by decide)) (by rfl) T.g_move_gap T.F_move_gap.kp T.b_move_gap .nil pass0 (pa_cons (pv 2) (pa_cons (pv 2) pa_nil))) (pe_make T.m_Move (ok_Move_init T) (hr.mono (by decide)) (by rfl) T.g_Move T.b_Move_init .nil pass0 (pa_cons pe_int (pa_cons pe_int (pa_cons pe_int pa_nil)))) (nomark _)) (pe_one (pe_cmpR (op_eqOwn T.e_Move (ok_Move_eq T) (hr.mono (by decide)) T.b_Move_eq pass0) (pe_call (ok_move_often T) (hr.mono (by decide)) (by rfl) T.g_move_often T.F_move_often.kp T.b_move_often .nil pass0 (pa_cons (pv 2) (pa_cons pe_int pa_nil))) (pe_call (ok_move_walked T) (hr.mono (by decide)) (by rfl) T.g_move_walked T.F_move_walked.kp T.b_move_walked .nil pass0 (pa_cons (pe_op op_repS (pe_ix ix_list (pv 1) pe_int (fun _ _ => rfl)) pe_int) pa_nil)) (nomark _)))))))))), ?_⟩
  refine ⟨2, rfl, by decide, by decide, fun D nD => ?_⟩
  refine lc_range (n := 2) (fun i H' => ∃ M' ls, BuildV v (n + 21 * i) M D (List.map (fun l : List Nat => V.str ⟨l.toArray⟩) ls) M' H' ∧ ls.length = i ∧ ∀ l ∈ ls, Stp l) ⟨_, [], BuildV.start w nD, rfl, fun _ h => nomatch h⟩ ?_ ?_
  · rintro i H1 hi ⟨M1, ls, b, hl, hs⟩
    refine ⟨rfl, yes_if ?_⟩
    refine ⟨⟨_, rfl⟩, ?_⟩
    refine ⟨_, rfl, _, _, rfl, v, n + 21 * i, M1, 21, rfl, rfl, b.vl, by omega, by decide, by decide, fun r H2 r0 r1 w2 => ?_⟩
    refine ⟨r, rfl, by omega, by omega, fun D2 nD2 => ?_⟩
    refine lc_range (n := r.toNat) (fun j H' => ∃ M' l, BuildV v (n + 21 * i + 1 + j) M1 D2 ((List.map one1 l).map V.str) M' H' ∧ l.length = j ∧ ∀ c ∈ l, isStep c) ⟨_, [], BuildV.start w2 nD2, rfl, fun _ h => nomatch h⟩ ?_ ?_
    · rintro j H3 hj ⟨M3, l, b3, hl3, hs3⟩
      refine ⟨rfl, yes_if ?_⟩
      refine ⟨_, rfl, _, _, rfl, v, _, M3, rfl, b3.vl, by omega, .inr ⟨_, rfl, by decide +kernel, by decide +kernel, fun c H4 hc w4 => ?_⟩⟩
      have st : isStep c := by
        have e : ("enws" : Str).cps.toList = [101, 110, 119, 115] := by decide +kernel
        rw [e] at hc
        simp only [List.mem_cons, List.not_mem_nil, or_false] at hc
        rcases hc with rfl | rfl | rfl | rfl
        · exact .inl rfl
        · exact .inr (.inl rfl)
        · exact .inr (.inr (.inl rfl))
        · exact .inr (.inr (.inr rfl))
      have b4 := b3.draw (Same.refl _) w4
      refine ⟨_, b4.here, ?_, upd M3 D2 (.lst ((List.map one1 l).map V.str ++ [.str (one1 c)])), l ++ [c], ?_, ?_, ?_⟩
      · rw [List.length_map, List.length_map]
        exact small1000 (by omega)
      · rw [List.map_append, List.map_append]
        exact b4.push _
      · rw [List.length_append, hl3]
        rfl
      · intro d hd
        rcases List.mem_append.mp hd with h | h
        · exact hs3 d h
        · rw [List.mem_singleton.mp h]
          exact st
    · rintro H3 ⟨M3, l, b3, hl3, hs3⟩
      refine ⟨_, D2, List.map one1 l, rfl, rfl, .inl (SqL.of b3.here), ?_, ?_⟩
      · have z : ∀ l : List Nat, ((l.map one1).map (·.length)).sum = l.length := by
          intro l
          induction l with
          | nil => rfl
          | cons c l ih =>
            rw [List.map_cons, List.map_cons, List.sum_cons, ih, List.length_cons]
            show 1 + l.length = _
            omega
        rw [z, List.length_map]
        have : ("" : Str).length = 0 := by decide
        rw [this]
        omega
      rw [join_l]
      have b4 := (b.draw b3.ex (b3.vl.mono (show _ ≤ n + 21 * (i + 1) by omega)))
      refine ⟨_, b4.here, ?_, upd M3 D (.lst (List.map (fun l : List Nat => V.str ⟨l.toArray⟩) ls ++ [.str ⟨l.toArray⟩])), ls ++ [l], ?_, ?_, ?_⟩
      · rw [List.length_map]
        exact small1000 (by omega)
      · rw [List.map_append]
        exact b4.push _
      · rw [List.length_append, hl]
        rfl
      · intro d hd
        rcases List.mem_append.mp hd with h | h
        · exact hs d h
        · rw [List.mem_singleton.mp h]
          exact ⟨hs3, by omega⟩
  rintro H1 ⟨M1, ls, b, hl, hs⟩
  match ls, hl with
  | [l1, l2], _ =>
  obtain ⟨s1, z1⟩ := hs l1 (by simp)
  obtain ⟨s2, z2⟩ := hs l2 (by simp)
  clear hs
  have top := b.ex
  have w := b.vl
  have hD : At M1 D (.lst [.str ⟨l1.toArray⟩, .str ⟨l2.toArray⟩]) := b.at_
  have B1 := walk_b l1 (by omega)
  have B2 := walk_b l2 (by omega)
  -- both moves
  refine ⟨_, rfl, D, _, 0, _, rfl, rfl, SqL.of (w.inn _ _ hD), rfl, _, rfl, M1, _, w.inn, rfl, s1, (by show l1.length ≤ 300; omega), fun r2 M2 H2 g2 made => ?_⟩
  replace made : Mv a.C_Move M2 r2 (walkT l1) := made
  replace w := w.grow g2
  replace top := top.trans g2.ex
  replace hD := hD.mono g2.ex
  refine ⟨_, rfl, D, _, 1, _, rfl, rfl, SqL.of (w.inn _ _ hD), rfl, _, rfl, M2, _, w.inn, rfl, s2, (by show l2.length ≤ 300; omega), fun r3 M3 H3 g3 mate => ⟨_, _, rfl, ?_⟩⟩
  replace mate : Mv a.C_Move M3 r3 (walkT l2) := mate
  replace w := w.grow g3
  replace top := top.trans g3.ex
  replace hD := hD.mono g3.ex
  replace made := made.mono g3.ex
  -- the way back
  refine ⟨⟨_, rfl⟩, ?_⟩
  refine ⟨_, rfl, D, _, 0, _, rfl, rfl, SqL.of (w.inn _ _ hD), rfl, _, rfl, (by show l1.length ≤ sizeLine; rw [sizeLine_eq]; omega), _, rfl, fun D2 nD2 => ?_⟩
  refine lc_it walk_str (fun i H' => ∃ M', Build M3 H3 D2 ((((l1.reverse.map flipC).take i).map one1).map V.str) M' H') ⟨M3, Build.start w.inn nD2⟩ (fun _ _ _ _ => trivial) ?_ ?_
  · rintro i x H4 H4' hi ⟨M4, b⟩ ⟨rfl, c, hc, rfl⟩
    have hc' : l1.reverse[i]? = some c := by
      have : (l1.reverse.toArray)[i]? = some c := hc
      simpa using this
    have st : isStep c := s1 c (List.mem_reverse.mp (List.mem_of_getElem? hc'))
    obtain ⟨k, k1, k2⟩ := step_idx st
    refine ⟨rfl, yes_if ?_⟩
    refine ⟨⟨_, rfl⟩, _, rfl, _, _, k, rfl, rfl, k1, _, _, _, rfl, rfl, (by rw [sizeLine_eq]; decide +kernel), k2, ?_⟩
    refine ⟨_, b.at_, ?_, M4, ?_⟩
    · rw [List.length_map, List.length_map, List.length_take]
      exact small1000 (Nat.le_trans (Nat.min_le_right _ _) (by rw [List.length_map, List.length_reverse]; omega))
    · have e : (l1.reverse.map flipC)[i]? = some (flipC c) := by rw [List.getElem?_map, hc']; rfl
      rw [List.take_add_one, e, List.map_append, List.map_append]
      exact b.push _
  rintro H4 ⟨M4, b⟩
  have e4 : (l1.reverse.map flipC).take (⟨l1.reverse.toArray⟩ : Str).cps.size = l1.reverse.map flipC := by
    rw [List.take_of_length_le]
    show _ ≤ l1.reverse.toArray.size
    rw [List.length_map, List.size_toArray]
    exact Nat.le_refl _
  replace b : Build M3 H3 D2 (((l1.reverse.map flipC).map one1).map V.str) M4 H4 := by
    have b' := b
    rw [show (List.take _ (l1.reverse.map flipC)) = l1.reverse.map flipC from e4] at b'
    exact b'
  obtain ⟨M5, g5, hD2, _⟩ := b.done
  replace w := w.grow g5
  replace top := top.trans g5.ex
  replace hD := hD.mono g5.ex
  replace made := made.mono g5.ex
  replace mate := mate.mono g5.ex
  refine ⟨_, D2, _, rfl, rfl, .inl (SqL.of (w.inn _ _ hD2)), ?_, ?_⟩
  · have z : ∀ l : List Nat, ((l.map one1).map (·.length)).sum = l.length := by
      intro l
      induction l with
      | nil => rfl
      | cons c l ih =>
        rw [List.map_cons, List.map_cons, List.sum_cons, ih, List.length_cons]
        show 1 + l.length = _
        omega
    rw [z, List.length_map, List.length_map, List.length_reverse]
    have : ("" : Str).length = 0 := by decide
    rw [this]
    omega
  rw [join_l]
  -- one then the other
  refine ⟨_, rfl, _, rfl, _, _, rfl, M5, _, _, w.inn, made, mate, B1.sm (by decide +kernel), B2.sm (by decide +kernel), fun r6 M6 H6 g6 k6 => ?_⟩
  replace w := w.grow g6
  replace top := top.trans g6.ex
  replace hD := hD.mono g6.ex
  replace made := made.mono g6.ex
  replace mate := mate.mono g6.ex
  have e12 : ((⟨l1.toArray⟩ : Str) ++ (⟨l2.toArray⟩ : Str)).cps.toList = l1 ++ l2 := toList_app _ _
  refine ⟨_, rfl, D, _, 0, _, rfl, rfl, SqL.of (w.inn _ _ hD), rfl, _, rfl, D, _, 1, _, rfl, rfl, SqL.of (w.inn _ _ hD), rfl, _, _, rfl, rfl, (by show l1.length + l2.length ≤ sizeLine; rw [sizeLine_eq]; omega), ?_⟩
  refine ⟨_, rfl, M6, _, w.inn, rfl, (by rw [e12]; intro c hc; exact (List.mem_append.mp hc).elim (s1 c) (s2 c)), (by rw [← Array.length_toList, e12, List.length_append]; omega), fun r7 M7 H7 g7 k7 => ?_⟩
  rw [e12, walk_app] at k7
  replace w := w.grow g7
  replace top := top.trans g7.ex
  replace hD := hD.mono g7.ex
  replace made := made.mono g7.ex
  replace mate := mate.mono g7.ex
  replace k6 := k6.mono g7.ex
  refine ne_move T.o_Move (k6.mono w.inn) (k7.mono w.inn) rfl ((B1.put B2).sm (by decide +kernel)) ⟨_, rfl, iteF ?_⟩
  refine ⟨_, rfl, _, rfl, M7, _, w.inn, made, B1.sm (by decide +kernel), fun r8 M8 H8 g8 k8 => ?_⟩
  replace w := w.grow g8
  replace top := top.trans g8.ex
  replace hD := hD.mono g8.ex
  replace made := made.mono g8.ex
  refine ⟨_, rfl, _, rfl, M8, _, w.inn, rfl, (by
    intro c hc
    have hc' : c ∈ l1.reverse.map flipC := hc
    obtain ⟨d, hd, rfl⟩ := List.mem_map.mp hc'
    exact flip_step (s1 d (List.mem_reverse.mp hd))), (by
    show (l1.reverse.map flipC).toArray.size ≤ 300
    rw [List.size_toArray, List.length_map, List.length_reverse]; omega), fun r9 M9 H9 g9 k9 => ?_⟩
  replace k9 : Mv a.C_Move M9 r9 (walkT (l1.reverse.map flipC)) := k9
  rw [walk_back l1 s1] at k9
  replace w := w.grow g9
  replace top := top.trans g9.ex
  replace hD := hD.mono g9.ex
  replace made := made.mono g9.ex
  replace k8 := k8.mono g9.ex
  refine ne_move T.o_Move (k8.mono w.inn) (k9.mono w.inn) rfl (B1.off.sm (by decide +kernel)) ⟨_, rfl, iteF ?_⟩
  -- the gap, three times
  refine ⟨_, rfl, _, rfl, _, _, rfl, M9, _, _, w.inn, made, made, B1.sm (by decide +kernel), B1.sm (by decide +kernel), fun r10 M10 H10 g10 k10 => ?_⟩
  rw [gap_self] at k10
  replace w := w.grow g10
  replace top := top.trans g10.ex
  replace hD := hD.mono g10.ex
  replace made := made.mono g10.ex
  intro x11 d11 hx11 hd11 ne11
  refine ⟨_, _, _, _, rfl, x11, d11, ((0,0,0) : T3), rfl, rfl, rfl, rfl, upd_same, rfl, ?_⟩
  rw [upd_upd]
  generalize e11 : upd (upd H10 d11 _) x11 _ = H11
  obtain ⟨M11, g11, k11⟩ := mv_of (t := (0,0,0)) e11 w.inn hx11 hd11 ne11
  replace w := w.grow g11
  replace top := top.trans g11.ex
  replace hD := hD.mono g11.ex
  replace made := made.mono g11.ex
  replace k10 := k10.mono g11.ex
  refine eq_move T.o_Move (k10.mono w.inn) (k11.mono w.inn) rfl ⟨by decide +kernel, by decide +kernel, by decide +kernel⟩ ⟨true, rfl, iteT ?_⟩
  refine ⟨_, rfl, _, _, rfl, M11, _, 3, w.inn, made, rfl, by decide +kernel, B1.up (by decide +kernel), fun r12 M12 H12 g12 k12 => ?_⟩
  replace w := w.grow g12
  replace top := top.trans g12.ex
  replace hD := hD.mono g12.ex
  have e3 : (repS ⟨l1.toArray⟩ 3).cps.toList = l1 ++ (l1 ++ (l1 ++ [])) := rfl
  refine ⟨_, rfl, D, _, 0, _, rfl, rfl, SqL.of (w.inn _ _ hD), rfl, _, 3, rfl, rfl, by decide, by decide, (by show l1.length * 3 ≤ sizeLine; rw [sizeLine_eq]; omega), ?_⟩
  refine ⟨_, rfl, M12, _, w.inn, rfl, (by rw [e3]; intro c hc; simp only [List.mem_append, List.not_mem_nil, or_false] at hc; rcases hc with h | h | h <;> exact s1 c h), (by rw [← Array.length_toList, e3]; simp only [List.length_append, List.length_nil]; omega), fun r13 M13 H13 g13 k13 => ?_⟩
  rw [e3, walk_three] at k13
  replace w := w.grow g13
  replace top := top.trans g13.ex
  replace k12 := k12.mono g13.ex
  refine eq_move T.o_Move (k12.mono w.inn) (k13.mono w.inn) rfl ((B1.pow (show (3 : Int).natAbs ≤ 3 by decide)).sm (by decide +kernel)) ?_
  exact q _ _ top w
end

end K63

namespace K63
open PySem PySem.Spec PyProof.Rows L2 Own
section
variable {P : Program} {w : World} {K : PySem.W.Frag} {mg : Str → Option Value} {base : Heap} {a : Ad}
theorem TripAt.put {M : Hp} {x : V} {t : T3} {D : Addr} {l : List V} {o : HO} (h : TripAt M x t) (hD : M D = some (.lst l)) : TripAt (upd M D o) x t := by
  obtain ⟨p, r, h⟩ := h
  refine ⟨p, r, ?_⟩
  rw [upd_ne]
  · exact h
  · rintro rfl
    rw [hD] at h
    cases h
def TrL (n : Nat) (M : Hp) : List V → List T3 → Prop
  | [], [] => True
  | x :: xs, t :: ts => (TripAt M x t ∧ B n t) ∧ TrL n M xs ts
  | _, _ => False
theorem TrL.mono {n : Nat} {M M1 : Hp} (e : Same M M1) : ∀ {xs : List V} {ts : List T3}, TrL n M xs ts → TrL n M1 xs ts
  | [], [], _ => trivial
  | _ :: _, _ :: _, h => ⟨⟨h.1.1.mono e, h.1.2⟩, TrL.mono e h.2⟩
  | [], _ :: _, h => h.elim
  | _ :: _, [], h => h.elim
theorem TrL.put {n : Nat} {M : Hp} {D : Addr} {l : List V} {o : HO} (hD : M D = some (.lst l)) : ∀ {xs : List V} {ts : List T3}, TrL n M xs ts → TrL n (upd M D o) xs ts
  | [], [], _ => trivial
  | _ :: _, _ :: _, h => ⟨⟨h.1.1.put hD, h.1.2⟩, TrL.put hD h.2⟩
  | [], _ :: _, h => h.elim
  | _ :: _, [], h => h.elim
theorem TrL.snoc {n : Nat} {M : Hp} {x : V} {t : T3} (h : TripAt M x t) (b : B n t) : ∀ {xs : List V} {ts : List T3}, TrL n M xs ts → TrL n M (xs ++ [x]) (ts ++ [t])
  | [], [], _ => ⟨⟨h, b⟩, trivial⟩
  | _ :: _, _ :: _, k => ⟨k.1, TrL.snoc h b k.2⟩
  | [], _ :: _, k => k.elim
  | _ :: _, [], k => k.elim
theorem TrL.len {n : Nat} {M : Hp} : ∀ {xs : List V} {ts : List T3}, TrL n M xs ts → xs.length = ts.length
  | [], [], _ => rfl
  | _ :: _, _ :: _, k => congrArg (· + 1) (TrL.len k.2)
  | [], _ :: _, k => k.elim
  | _ :: _, [], k => k.elim
theorem B.up' {n m : Nat} {t : T3} (h : B n t) (k : n ≤ m) : B m t := ⟨Nat.le_trans h.1 k, Nat.le_trans h.2.1 k, Nat.le_trans h.2.2 k⟩
theorem all3 (x y z : T3) : allT [x, y, z] = putT (putT x y) z := by
  show putT (allT [x, y]) z = _
  rw [all2]
def spRight : Sp := sp1 fun x H Q => ∃ v M, x = .ref v ∧ Vl v 1 M H ∧ ∀ H', Same M H' → Q (.bl true) H'
theorem ok_l_right (T : Txt K w mg a) : FnG P w K mg base 11 a.f_l_right a.d_l_right ["_law_reel_here"] spRight := by
  refine okG T.F_l_right sc_l_right (len1 rfl) (fun cdv A outer s H vs Q E hg hr h => ?_)
  obtain ⟨_, rfl, v, M, rfl, w, q⟩ := h
  refine ⟨_, (pss_cons (ps_for PassesOwn.never rfl (pi_range1 (by rfl) T.z_range (pa_cons pe_int pa_nil)) (pg_name (i := 1) sc_l_right.nd rfl (.inl rfl))
      (pss_cons (ps_set (i := 2) sc_l_right.nd rfl (.inr rfl) (pe_call (ok_l_one_of T) (hr.mono (by decide)) (by rfl) T.g_l_one_of T.F_l_one_of.kp T.b_l_one_of .nil pass0 (pa_cons (pv 0) (pa_cons (pe_lst (pa_cons pe_int (pa_cons pe_int (pa_cons pe_int pa_nil)))) pa_nil))))
      (pss_cons (ps_asg (pe_lc (own := [("_law_side", 8)]) (g := gName 8) (tt := tYes) rfl sc_l_right.nd (pi_range1 (by rfl) T.z_range (pa_cons pe_int pa_nil)) (blkOk_by (own := [("_law_side", 8)]) (N := ["_law_reel_here", "_law_turn", "_law_size", "_law_first", "_law_mid", "_law_last", "_law_by", "_law_left", "_law_side", "_law_number"]) (sc := defScope s_l_right) (by decide +kernel)) (fun _ _ _ _ _ => (pg_name (i := 8) sc_l_right.nd rfl (.inl rfl))) (fun _ _ _ _ _ => pts_nil) (fun _ _ _ _ _ => (pe_call (ok_l_trip T) (hr.mono (by decide)) (by rfl) T.g_l_trip T.F_l_trip.kp T.b_l_trip .nil pass0 (pa_cons (pv 0) (pa_cons (pv 2) pa_nil))))) (pg_lst (by rfl) (pgs_cons (pg_name (i := 3) sc_l_right.nd rfl (.inl rfl)) (pgs_cons (pg_name (i := 4) sc_l_right.nd rfl (.inl rfl)) (pgs_cons (pg_name (i := 5) sc_l_right.nd rfl (.inl rfl)) pgs_nil)))))
      (pss_cons (ps_set (i := 6) sc_l_right.nd rfl (.inr rfl) (pe_call (ok_l_one_of T) (hr.mono (by decide)) (by rfl) T.g_l_one_of T.F_l_one_of.kp T.b_l_one_of .nil pass0 (pa_cons (pv 0) (pa_cons (pe_lst (pa_cons pe_int (pa_cons pe_int (pa_cons (pe_op op_pow pe_int pe_int) pa_nil)))) pa_nil))))
      (pss_cons (ps_set (i := 5) sc_l_right.nd rfl (.inl rfl) (pe_callTy call_tuple_of (by rfl) T.z_tuple (by decide +kernel) (pa_cons (pe_lc (own := [("_law_number", 9)]) (g := gName 9) (tt := tYes) rfl sc_l_right.nd (pi_tup (pv 5)) (blkOk_by (own := [("_law_number", 9)]) (N := ["_law_reel_here", "_law_turn", "_law_size", "_law_first", "_law_mid", "_law_last", "_law_by", "_law_left", "_law_side", "_law_number"]) (sc := defScope s_l_right) (by decide +kernel)) (fun _ _ _ _ _ => (pg_name (i := 9) sc_l_right.nd rfl (.inl rfl))) (fun _ _ _ _ _ => pts_nil) (fun _ _ _ _ _ => (pe_op op_mulW (pv 9) (pv 6)))) pa_nil)))
      (pss_cons (ps_if (PW.pt (pw_or (pt_not (pt_val (pe_call (ok_l_pair_right T) (hr.mono (by decide)) (by rfl) T.g_l_pair_right T.F_l_pair_right.kp T.b_l_pair_right .nil pass0 (pa_cons (pv 3) (pa_cons (pv 5) pa_nil))))) (pw_or (pt_not (pt_val (pe_callG (ok_l_often_right T) hg (hr.mono (by decide)) (by rfl) T.g_l_often_right T.F_l_often_right.kp T.b_l_often_right (pa_cons (pv 0) (pa_cons (pv 5) pa_nil))))) (pw_or1 (pt_not (pt_val (pe_call (ok_l_walks_right T) (hr.mono (by decide)) (by rfl) T.g_l_walks_right T.F_l_walks_right.kp T.b_l_walks_right .nil pass0 (pa_cons (pv 0) pa_nil))))))))
      (pss_one (ps_ret pe_bl)) pss_nil)
      (pss_cons (ps_set (i := 7) sc_l_right.nd rfl (.inl rfl) (pe_call (ok_move_then T) (hr.mono (by decide)) (by rfl) T.g_move_then T.F_move_then.kp T.b_move_then .nil pass0 (pa_cons (pe_call (ok_move_then T) (hr.mono (by decide)) (by rfl) T.g_move_then T.F_move_then.kp T.b_move_then .nil pass0 (pa_cons (pe_call (ok_l_move T) (hr.mono (by decide)) (by rfl) T.g_l_move T.F_l_move.kp T.b_l_move .nil pass0 (pa_cons (pv 3) pa_nil)) (pa_cons (pe_call (ok_l_move T) (hr.mono (by decide)) (by rfl) T.g_l_move T.F_l_move.kp T.b_l_move .nil pass0 (pa_cons (pv 4) pa_nil)) pa_nil))) (pa_cons (pe_call (ok_l_move T) (hr.mono (by decide)) (by rfl) T.g_l_move T.F_l_move.kp T.b_l_move .nil pass0 (pa_cons (pv 5) pa_nil)) pa_nil))))
      (pss_cons (ps_if (pt_cmpR (op_neOwn T.e_Move (ok_Move_eq T) (hr.mono (by decide)) T.b_Move_eq pass0) (pv 7) (pe_call (ok_move_then T) (hr.mono (by decide)) (by rfl) T.g_move_then T.F_move_then.kp T.b_move_then .nil pass0 (pa_cons (pe_call (ok_l_move T) (hr.mono (by decide)) (by rfl) T.g_l_move T.F_l_move.kp T.b_l_move .nil pass0 (pa_cons (pv 3) pa_nil)) (pa_cons (pe_call (ok_move_then T) (hr.mono (by decide)) (by rfl) T.g_move_then T.F_move_then.kp T.b_move_then .nil pass0 (pa_cons (pe_call (ok_l_move T) (hr.mono (by decide)) (by rfl) T.g_l_move T.F_l_move.kp T.b_l_move .nil pass0 (pa_cons (pv 4) pa_nil)) (pa_cons (pe_call (ok_l_move T) (hr.mono (by decide)) (by rfl) T.g_l_move T.F_l_move.kp T.b_l_move .nil pass0 (pa_cons (pv 5) pa_nil)) pa_nil))) pa_nil))) (nomark _))
      (pss_one (ps_ret pe_bl)) pss_nil)
      (pss_one (ps_if (pt_cmpR (op_neD (hr.mono (Nat.zero_le _)).units) (pe_call (ok_l_three T) (hr.mono (by decide)) (by rfl) T.g_l_three T.F_l_three.kp T.b_l_three .nil pass0 (pa_cons (pv 7) pa_nil)) (pe_call (ok_l_all T) (hr.mono (by decide)) (by rfl) T.g_l_all T.F_l_all.kp T.b_l_all .nil pass0 (pa_cons (pe_lst (pa_cons (pe_call (ok_l_square T) (hr.mono (by decide)) (by rfl) T.g_l_square T.F_l_square.kp T.b_l_square .nil pass0 (pa_cons (pv 3) pa_nil)) (pa_cons (pe_call (ok_l_square T) (hr.mono (by decide)) (by rfl) T.g_l_square T.F_l_square.kp T.b_l_square .nil pass0 (pa_cons (pv 4) pa_nil)) (pa_cons (pe_call (ok_l_square T) (hr.mono (by decide)) (by rfl) T.g_l_square T.F_l_square.kp T.b_l_square .nil pass0 (pa_cons (pv 5) pa_nil)) pa_nil)))) pa_nil)) (nomark _))
      (pss_one (ps_ret pe_bl)) pss_nil))))))))))
      (pss_one (ps_ret (pe_cmpR op_isN (pe_call (ok_move_order T) (hr.mono (by decide)) (by rfl) T.g_move_order T.F_move_order.kp T.b_move_order .nil pass0 (pa_cons (pe_make T.m_Move (ok_Move_init T) (hr.mono (by decide)) (by rfl) T.g_Move T.b_Move_init .nil pass0 (pa_cons pe_int (pa_cons pe_int (pa_cons pe_int pa_nil)))) pa_nil)) pe_non (nomark _))))), ?_⟩
  refine ⟨4, rfl, by decide, by decide, ?_⟩
  refine for_range (lo := 0) (n := 4) (fun i σ H' => ∃ M' y1 y2 y3 y4 y5 y6 y7, σ = [some (.ref v), y1, y2, y3, y4, y5, y6, y7, none, none] ∧ Same M M' ∧ Vl v (1 + 55 * i) M' H') ⟨M, none, none, none, none, none, none, none, rfl, Same.refl _, w⟩ ?_ ?_
  · rintro i σ H0 hi ⟨M0, y1, y2, y3, y4, y5, y6, y7, rfl, top, w⟩
    refine ⟨_, rfl, ?_⟩
    refine ⟨szL rfl, fun p1 pn1 => ?_⟩
    generalize e1 : upd H0 p1 _ = H1
    obtain ⟨M1, g1, hp1⟩ := new_of e1 w.inn pn1
    replace w := w.grow g1
    replace top := top.trans g1.ex
    refine ⟨_, _, rfl, v, _, M1, rfl, w, by omega, .inl ⟨p1, _, rfl, hp1, by show 0 < 3; decide, by show 3 < 1000; decide, fun r2 H2 m2 w => ?_⟩⟩
    obtain ⟨S, rfl, S0, S1⟩ : ∃ S : Int, r2 = .int S ∧ 0 ≤ S ∧ S ≤ 50 := by
      simp only [List.mem_cons, List.not_mem_nil, or_false] at m2
      rcases m2 with rfl | rfl | rfl
      all_goals exact ⟨_, rfl, by decide, by decide⟩
    refine ⟨3, rfl, by decide, by decide, fun D nD => ?_⟩
    refine lc_range (n := 3) (fun j H' => ∃ M' xs ts, BuildV v (1 + 55 * i + 1 + 3 * j) M1 D xs M' H' ∧ xs.length = j ∧ TrL 50 M' xs ts) ⟨_, [], [], BuildV.start w nD, rfl, trivial⟩ ?_ ?_
    · rintro j H3 hj ⟨M3, xs, ts, b, hl, tr⟩
      refine ⟨rfl, yes_if ?_⟩
      refine ⟨_, rfl, _, rfl, _, _, rfl, v, _, M3, S, rfl, rfl, b.vl, by omega, S0, by omega, fun r4 M4 H4 t4 e4 w4 k4 b4 => ?_⟩
      have b5 := b.draw e4 w4
      refine ⟨_, b5.here, ?_, upd M4 D (.lst (xs ++ [r4])), xs ++ [r4], ts ++ [t4], b5.push _, ?_, ?_⟩
      · exact small1000 (by omega)
      · rw [List.length_append, hl]
        rfl
      · exact ((tr.mono e4).snoc k4 (b4.up' (by omega))).put b5.at_
    rintro H3 ⟨M3, xs, ts, b, hl, tr⟩
    have hlt : ts.length = 3 := by rw [← tr.len]; exact hl
    match xs, hl, ts, hlt with
    | [x1, x2, x3], _, [t1, t2, t3], _ =>
    obtain ⟨⟨first, b1⟩, ⟨mid, b2⟩, ⟨last, b3⟩, _⟩ := tr
    replace top := top.trans b.ex
    have w := b.vl
    refine ⟨D, _, rfl, SqL.of b.here, rfl, _, _, rfl, _, _, rfl, _, _, rfl, rfl, ?_⟩
    refine ⟨_, rfl, _, _, rfl, rfl, ⟨by decide, by decide, by decide⟩, ?_⟩
    refine ⟨szL rfl, fun p4 pn4 => ?_⟩
    generalize e4 : upd H3 p4 _ = H4
    obtain ⟨M4, g4, hp4⟩ := new_of e4 w.inn pn4
    replace w := w.grow g4
    replace top := top.trans g4.ex
    replace first := first.mono g4.ex
    replace mid := mid.mono g4.ex
    replace last := last.mono g4.ex
    refine ⟨_, _, rfl, v, _, M4, rfl, w, by omega, .inl ⟨p4, _, rfl, hp4, by show 0 < 3; decide, by show 3 < 1000; decide, fun r5 H5 m5 w => ?_⟩⟩
    obtain ⟨F, rfl, F1⟩ : ∃ F : Int, r5 = .int F ∧ F.natAbs ≤ 10 ^ 28 := by
      simp only [List.mem_cons, List.not_mem_nil, or_false] at m5
      rcases m5 with rfl | rfl | rfl
      all_goals exact ⟨_, rfl, by decide +kernel⟩
    have F2 : F.natAbs < 10 ^ 300 := Nat.lt_of_le_of_lt F1 (by decide +kernel)
    -- the last one so much as great
    obtain ⟨p6, rfl, hp6⟩ := last
    refine ⟨_, rfl, p6, rfl, ⟨_, SqT.of (w.inn _ _ hp6)⟩, fun D3 nD3 => ?_⟩
    refine lc_tup (xs := [t3.1, t3.2.1, t3.2.2].map V.int) (fun j H' => ∃ M', Build M4 H5 D3 (([t3.1, t3.2.1, t3.2.2].take j).map fun z => V.int (z * F)) M' H') ⟨M4, Build.start w.inn nD3⟩ ?_ ?_ ?_
    · rintro j H' hj ⟨M', b⟩
      exact SqT.of (b.inn _ _ (b.ex _ _ hp6))
    · rintro j x H' hx ⟨M', b⟩
      rw [List.getElem?_map, Option.map_eq_some_iff] at hx
      obtain ⟨z, hz, rfl⟩ := hx
      have zb : z.natAbs ≤ 50 := by
        have := List.mem_of_getElem? hz
        simp only [List.mem_cons, List.not_mem_nil, or_false] at this
        obtain ⟨y1, y2, y3⟩ := b3
        rcases this with h | h | h <;> rw [h] <;> assumption
      refine ⟨rfl, yes_if ?_⟩
      refine ⟨_, rfl, _, rfl, _, _, rfl, rfl, big_mul (Nat.lt_of_le_of_lt zb (by decide +kernel)) F2, ?_⟩
      refine ⟨_, b.at_, ?_, M', ?_⟩
      · rw [List.length_map, List.length_take]
        exact small1000 (Nat.le_trans (Nat.min_le_right _ _) (by show 3 ≤ 1000; decide))
      · rw [List.take_add_one, hz, List.map_append]
        exact b.push _
    rintro H7 ⟨M7, b⟩
    obtain ⟨M8, g8, hD3, _⟩ := b.done
    replace w := w.grow g8
    replace top := top.trans g8.ex
    replace first := first.mono g8.ex
    replace mid := mid.mono g8.ex
    refine ⟨D3, _, rfl, .inl ⟨SqL.of (w.inn _ _ hD3), fun p9 pn9 => ?_⟩⟩
    generalize e9 : upd H7 p9 _ = H9
    obtain ⟨M9, g9, hp9⟩ := new_of e9 w.inn pn9
    replace w := w.grow g9
    replace top := top.trans g9.ex
    replace first := first.mono g9.ex
    replace mid := mid.mono g9.ex
    obtain ⟨tl, etl⟩ : ∃ tl : T3, tl = (t3.1 * F, t3.2.1 * F, t3.2.2 * F) := ⟨_, rfl⟩
    have last : TripAt M9 (.ref p9) tl := ⟨p9, rfl, by rw [etl]; exact hp9⟩
    have bl : B (10 ^ 30) tl := by
      rw [etl]
      have z1 := na_mul b3.1 F1
      have z2 := na_mul b3.2.1 F1
      have z3 := na_mul b3.2.2 F1
      exact ⟨Nat.le_trans z1 (by decide +kernel), Nat.le_trans z2 (by decide +kernel), Nat.le_trans z3 (by decide +kernel)⟩
    have c1 : B (10 ^ 30) t1 := b1.up (by decide +kernel)
    have c2 : B (10 ^ 30) t2 := b2.up (by decide +kernel)
    clear etl
    -- pairs, often, walks
    refine ⟨_, rfl, _, rfl, _, _, rfl, M9, t1, tl, w.inn, first, last, c1, bl, fun M10 H10 g10 => ⟨_, rfl, iteF ?_⟩⟩
    replace w := w.grow g10
    replace top := top.trans g10.ex
    replace first := first.mono g10.ex
    replace mid := mid.mono g10.ex
    replace last := last.mono g10.ex
    refine ⟨_, rfl, _, rfl, _, _, rfl, v, _, M10, tl, rfl, w, by omega, last, bl, fun M11 H11 e11 w => ⟨_, rfl, iteF ?_⟩⟩
    replace top := top.trans e11
    replace first := first.mono e11
    replace mid := mid.mono e11
    replace last := last.mono e11
    refine ⟨_, rfl, _, rfl, v, _, M11, rfl, w, by omega, fun M12 H12 e12 w => ⟨_, rfl, iteF ?_⟩⟩
    replace top := top.trans e12
    replace first := first.mono e12
    replace mid := mid.mono e12
    replace last := last.mono e12
    -- three in a row
    have s1 : Sm t1 := c1.sm (by decide +kernel)
    have s2 : Sm t2 := c2.sm (by decide +kernel)
    have s3 : Sm tl := bl.sm (by decide +kernel)
    have s12 : Sm (putT t1 t2) := (c1.put c2).sm (by decide +kernel)
    have s23 : Sm (putT t2 tl) := (c2.put bl).sm (by decide +kernel)
    have s123 : Sm (putT (putT t1 t2) tl) := ((c1.put c2).put bl).sm (by decide +kernel)
    refine ⟨_, rfl, _, rfl, M12, t1, w.inn, first, fun r13 M13 H13 g13 k13 => ?_⟩
    replace w := w.grow g13
    replace top := top.trans g13.ex
    replace first := first.mono g13.ex
    replace mid := mid.mono g13.ex
    replace last := last.mono g13.ex
    refine ⟨_, rfl, _, rfl, M13, t2, w.inn, mid, fun r14 M14 H14 g14 k14 => ?_⟩
    replace w := w.grow g14
    replace top := top.trans g14.ex
    replace first := first.mono g14.ex
    replace mid := mid.mono g14.ex
    replace last := last.mono g14.ex
    replace k13 := k13.mono g14.ex
    refine ⟨_, _, rfl, M14, _, _, w.inn, k13, k14, s1, s2, fun r15 M15 H15 g15 k15 => ?_⟩
    replace w := w.grow g15
    replace top := top.trans g15.ex
    replace first := first.mono g15.ex
    replace mid := mid.mono g15.ex
    replace last := last.mono g15.ex
    refine ⟨_, rfl, _, rfl, M15, tl, w.inn, last, fun r16 M16 H16 g16 k16 => ?_⟩
    replace w := w.grow g16
    replace top := top.trans g16.ex
    replace first := first.mono g16.ex
    replace mid := mid.mono g16.ex
    replace last := last.mono g16.ex
    replace k15 := k15.mono g16.ex
    refine ⟨_, _, rfl, M16, _, _, w.inn, k15, k16, s12, s3, fun r17 M17 H17 g17 k17 => ?_⟩
    replace w := w.grow g17
    replace top := top.trans g17.ex
    replace first := first.mono g17.ex
    replace mid := mid.mono g17.ex
    replace last := last.mono g17.ex
    refine ⟨_, rfl, _, rfl, _, rfl, M17, t1, w.inn, first, fun r18 M18 H18 g18 k18 => ?_⟩
    replace w := w.grow g18
    replace top := top.trans g18.ex
    replace first := first.mono g18.ex
    replace mid := mid.mono g18.ex
    replace last := last.mono g18.ex
    replace k17 := k17.mono g18.ex
    refine ⟨_, rfl, _, rfl, M18, t2, w.inn, mid, fun r19 M19 H19 g19 k19 => ?_⟩
    replace w := w.grow g19
    replace top := top.trans g19.ex
    replace first := first.mono g19.ex
    replace mid := mid.mono g19.ex
    replace last := last.mono g19.ex
    replace k17 := k17.mono g19.ex
    replace k18 := k18.mono g19.ex
    refine ⟨_, rfl, _, rfl, M19, tl, w.inn, last, fun r20 M20 H20 g20 k20 => ?_⟩
    replace w := w.grow g20
    replace top := top.trans g20.ex
    replace first := first.mono g20.ex
    replace mid := mid.mono g20.ex
    replace last := last.mono g20.ex
    replace k17 := k17.mono g20.ex
    replace k18 := k18.mono g20.ex
    replace k19 := k19.mono g20.ex
    refine ⟨_, _, rfl, M20, _, _, w.inn, k19, k20, s2, s3, fun r21 M21 H21 g21 k21 => ?_⟩
    replace w := w.grow g21
    replace top := top.trans g21.ex
    replace first := first.mono g21.ex
    replace mid := mid.mono g21.ex
    replace last := last.mono g21.ex
    replace k17 := k17.mono g21.ex
    replace k18 := k18.mono g21.ex
    refine ⟨_, _, rfl, M21, _, _, w.inn, k18, k21, s1, s23, fun r22 M22 H22 g22 k22 => ?_⟩
    replace w := w.grow g22
    replace top := top.trans g22.ex
    replace first := first.mono g22.ex
    replace mid := mid.mono g22.ex
    replace last := last.mono g22.ex
    replace k17 := k17.mono g22.ex
    refine ne_move T.o_Move (k17.mono w.inn) (k22.mono w.inn) (put_assoc _ _ _) s123 ⟨_, rfl, iteF ?_⟩
    refine ⟨_, rfl, _, rfl, M22, _, w.inn, k17, fun r23 M23 H23 g23 k23 => ?_⟩
    replace w := w.grow g23
    replace top := top.trans g23.ex
    replace first := first.mono g23.ex
    replace mid := mid.mono g23.ex
    replace last := last.mono g23.ex
    refine ⟨_, rfl, _, rfl, M23, t1, w.inn, first, fun r24 M24 H24 g24 k24 => ?_⟩
    replace w := w.grow g24
    replace top := top.trans g24.ex
    replace mid := mid.mono g24.ex
    replace last := last.mono g24.ex
    replace k23 := k23.mono g24.ex
    refine ⟨_, rfl, _, rfl, M24, t2, w.inn, mid, fun r25 M25 H25 g25 k25 => ?_⟩
    replace w := w.grow g25
    replace top := top.trans g25.ex
    replace last := last.mono g25.ex
    replace k23 := k23.mono g25.ex
    replace k24 := k24.mono g25.ex
    refine ⟨_, rfl, _, rfl, M25, tl, w.inn, last, fun r26 M26 H26 g26 k26 => ?_⟩
    replace w := w.grow g26
    replace top := top.trans g26.ex
    replace k23 := k23.mono g26.ex
    replace k24 := k24.mono g26.ex
    replace k25 := k25.mono g26.ex
    refine ⟨szL rfl, fun p27 pn27 => ?_⟩
    generalize e27 : upd H26 p27 _ = H27
    obtain ⟨M27, g27, hp27⟩ := new_of e27 w.inn pn27
    replace w := w.grow g27
    replace top := top.trans g27.ex
    replace k23 := k23.mono g27.ex
    replace k24 := k24.mono g27.ex
    replace k25 := k25.mono g27.ex
    replace k26 := k26.mono g27.ex
    obtain ⟨z1, z2⟩ := all_sm (ts := [t1, t2, tl]) (by
      intro z hz
      simp only [List.mem_cons, List.not_mem_nil, or_false] at hz
      rcases hz with rfl | rfl | rfl
      · exact c1.b2 (by decide +kernel) (by decide +kernel)
      · exact c2.b2 (by decide +kernel) (by decide +kernel)
      · exact bl.b2 (by decide +kernel) (by decide +kernel)) (by show 3 ≤ 8; decide)
    refine ⟨_, rfl, M27, p27, _, [t1, t2, tl], w.inn, rfl, hp27, ⟨k24, k25, k26, trivial⟩, z1, z2, fun r28 M28 H28 g28 k28 => ?_⟩
    rw [all3] at k28
    replace w := w.grow g28
    replace top := top.trans g28.ex
    replace k23 := k23.mono g28.ex
    refine ⟨_, _, (k23.mono w.inn).dp, (k28.mono w.inn).dp, sh_dT _, sh_dT _, _, rfl, ?_⟩
    rw [eqv_sh (sh_dT _)]
    exact iteF ⟨M28, _, _, _, _, _, _, _, rfl, top, w.mono (by omega)⟩
  · rintro σ H0 ⟨M0, y1, y2, y3, y4, y5, y6, y7, rfl, top, w⟩
    intro x1 d1 hx1 hd1 ne1
    refine ⟨_, _, _, _, rfl, x1, d1, ((0,0,5) : T3), rfl, rfl, rfl, rfl, upd_same, rfl, ?_⟩
    rw [upd_upd]
    generalize e1 : upd (upd H0 d1 _) x1 _ = H1
    obtain ⟨M1, g1, k1⟩ := mv_of (t := (0,0,5)) e1 w.inn hx1 hd1 ne1
    replace w := w.grow g1
    replace top := top.trans g1.ex
    refine ⟨_, rfl, M1, _, w.inn, k1, fun M2 H2 g2 => ⟨rfl, ?_⟩⟩
    replace w := w.grow g2
    replace top := top.trans g2.ex
    have e : ordT ((0, 0, 5) : T3) = .non := if_neg (by decide)
    rw [e]
    exact q _ (top.trans w.inn)
end

end K63

namespace K63
open PySem PySem.Spec PyProof.Rows L2 Own
section
variable {P : Program} {w : World} {K : PySem.W.Frag} {mg : Str → Option Value} {base : Heap} {a : Ad}
/-- the law -/
def spLaw (K : PySem.W.Frag) : Sp := sp1 fun x H Q => ∃ p, ∃ ns : List Int, x = .ref p ∧ SqL K H p (ns.map V.int) ∧ ns.length ≤ 63 ∧ ∀ H', Q (.bl true) H'
theorem ok_law (T : Txt K w mg a) : FnG P w K mg base 14 a.f_law a.d_law ["_law_script"] (spLaw K) := by
  refine okG T.F_law sc_law (len1 rfl) (fun cdv A outer s H vs Q E hg hr h => ?_)
  obtain ⟨_, rfl, p, ns, rfl, hS, hl, q⟩ := h
  refine ⟨_, (pss_one (ps_ret (pe_callB (cr_all rfl) (by rfl) T.z_all (by decide +kernel) (pa_cons (pe_lc (own := [("_law_turn", 1)]) (g := gName 1) (tt := tYes) rfl sc_law.nd (pi_range1 (by rfl) T.z_range (pa_cons pe_int pa_nil)) (blkOk_by (own := [("_law_turn", 1)]) (N := ["_law_script", "_law_turn"]) (sc := defScope s_law) (by decide +kernel)) (fun _ _ _ _ _ => (pg_name (i := 1) sc_law.nd rfl (.inl rfl))) (fun _ _ _ _ _ => pts_nil) (fun _ _ _ _ _ => (pe_callG (ok_l_right T) hg (hr.mono (by decide)) (by rfl) T.g_l_right T.F_l_right.kp T.b_l_right (pa_cons (pe_call (ok_l_reel T) (hr.mono (by decide)) (by rfl) T.g_l_reel T.F_l_reel.kp T.b_l_reel .nil pass0 (pa_cons (pv 0) (pa_cons (pv 1) pa_nil))) pa_nil)))) pa_nil)))), ?_⟩
  refine ⟨2, rfl, by decide, by decide, fun D nD => ?_⟩
  refine lc_range (n := 2) (fun i H' => Same H H' ∧ H' D = some (.lst ((List.replicate i true).map V.bl))) ?_ ?_ ?_
  · exact ⟨same_new nD, upd_same⟩
  · rintro i H1 hi ⟨e1, d1⟩
    refine ⟨rfl, yes_if ?_⟩
    refine ⟨_, rfl, _, rfl, _, _, rfl, p, ns, _, rfl, rfl, e1.seq hS, hl, by omega, fun v H2 x y e2 nv hv hx => ?_⟩
    refine ⟨_, rfl, v, H1, rfl, ⟨e2, nv, x, y, 1, hv, hx, by decide, by decide⟩, fun H3 e3 => ?_⟩
    refine ⟨_, e3 _ _ d1, ?_, ?_, ?_⟩
    · rw [List.length_map, List.length_replicate]
      exact small1000 (by omega)
    · intro b o h
      rw [upd_ne (ne_of_none h nD)]
      exact e3 _ _ (e1 _ _ h)
    · rw [upd_same, List.replicate_succ', List.map_append]
      rfl
  · rintro H1 ⟨e1, d1⟩
    exact ⟨D, [true, true], rfl, SqL.of d1, q _⟩
end

end K63

namespace K63
open PySem PySem.Spec PyProof.Rows L2 Own
set_option maxHeartbeats 0 in
theorem all_mk {P : Program} {w : World} {K : PySem.W.Frag} {h : Heap} {mg : Str → Option Value} {fa : Addr} (X : K.In h) (G : h.Ns mainGlobals mg) (hfa : mg "law" = some (.ref fa))
    {f_1 : Addr} {od_1 an_1 : Option Addr} {sl_1 : Array (Option Value)} {oc_1 kV_1 dc_1 pm_1 cd_1 ct_1 : Value}
    {f_2 : Addr} {od_2 an_2 : Option Addr} {sl_2 : Array (Option Value)} {oc_2 kV_2 dc_2 pm_2 cd_2 ct_2 : Value}
    {f_3 : Addr} {od_3 an_3 : Option Addr} {sl_3 : Array (Option Value)} {oc_3 kV_3 dc_3 pm_3 cd_3 ct_3 : Value}
    {f_4 : Addr} {od_4 an_4 : Option Addr} {sl_4 : Array (Option Value)} {oc_4 kV_4 dc_4 pm_4 cd_4 ct_4 : Value}
    {f_5 : Addr} {od_5 an_5 : Option Addr} {sl_5 : Array (Option Value)} {oc_5 kV_5 dc_5 pm_5 cd_5 ct_5 : Value}
    {f_6 : Addr} {od_6 an_6 : Option Addr} {sl_6 : Array (Option Value)} {oc_6 kV_6 dc_6 pm_6 cd_6 ct_6 : Value}
    {f_7 : Addr} {od_7 an_7 : Option Addr} {sl_7 : Array (Option Value)} {oc_7 kV_7 dc_7 pm_7 cd_7 ct_7 : Value}
    {f_8 : Addr} {od_8 an_8 : Option Addr} {sl_8 : Array (Option Value)} {oc_8 kV_8 dc_8 pm_8 cd_8 ct_8 : Value}
    {f_9 : Addr} {od_9 an_9 : Option Addr} {sl_9 : Array (Option Value)} {oc_9 kV_9 dc_9 pm_9 cd_9 ct_9 : Value}
    {f_10 : Addr} {od_10 an_10 : Option Addr} {sl_10 : Array (Option Value)} {oc_10 kV_10 dc_10 pm_10 cd_10 ct_10 : Value}
    {f_11 : Addr} {od_11 an_11 : Option Addr} {sl_11 : Array (Option Value)} {oc_11 kV_11 dc_11 pm_11 cd_11 ct_11 : Value}
    {f_12 : Addr} {od_12 an_12 : Option Addr} {sl_12 : Array (Option Value)} {oc_12 kV_12 dc_12 pm_12 cd_12 ct_12 : Value}
    {f_13 : Addr} {od_13 an_13 : Option Addr} {sl_13 : Array (Option Value)} {oc_13 kV_13 dc_13 pm_13 cd_13 ct_13 : Value}
    {f_14 : Addr} {od_14 an_14 : Option Addr} {sl_14 : Array (Option Value)} {oc_14 kV_14 dc_14 pm_14 cd_14 ct_14 : Value}
    {f_15 : Addr} {od_15 an_15 : Option Addr} {sl_15 : Array (Option Value)} {oc_15 kV_15 dc_15 pm_15 cd_15 ct_15 : Value}
    {f_16 : Addr} {od_16 an_16 : Option Addr} {sl_16 : Array (Option Value)} {oc_16 kV_16 dc_16 pm_16 cd_16 ct_16 : Value}
    {f_17 : Addr} {od_17 an_17 : Option Addr} {sl_17 : Array (Option Value)} {oc_17 kV_17 dc_17 pm_17 cd_17 ct_17 : Value}
    {f_18 : Addr} {od_18 an_18 : Option Addr} {sl_18 : Array (Option Value)} {oc_18 kV_18 dc_18 pm_18 cd_18 ct_18 : Value}
    {f_19 : Addr} {od_19 an_19 : Option Addr} {sl_19 : Array (Option Value)} {oc_19 kV_19 dc_19 pm_19 cd_19 ct_19 : Value}
    {f_20 : Addr} {od_20 an_20 : Option Addr} {sl_20 : Array (Option Value)} {oc_20 kV_20 dc_20 pm_20 cd_20 ct_20 : Value}
    {f_21 : Addr} {od_21 an_21 : Option Addr} {sl_21 : Array (Option Value)} {oc_21 kV_21 dc_21 pm_21 cd_21 ct_21 : Value}
    {f_22 : Addr} {od_22 an_22 : Option Addr} {sl_22 : Array (Option Value)} {oc_22 kV_22 dc_22 pm_22 cd_22 ct_22 : Value}
    {f_23 : Addr} {od_23 an_23 : Option Addr} {sl_23 : Array (Option Value)} {oc_23 kV_23 dc_23 pm_23 cd_23 ct_23 : Value}
    {f_24 : Addr} {od_24 an_24 : Option Addr} {sl_24 : Array (Option Value)} {oc_24 kV_24 dc_24 pm_24 cd_24 ct_24 : Value}
    {f_25 : Addr} {od_25 an_25 : Option Addr} {sl_25 : Array (Option Value)} {oc_25 kV_25 dc_25 pm_25 cd_25 ct_25 : Value}
    {f_26 : Addr} {od_26 an_26 : Option Addr} {sl_26 : Array (Option Value)} {oc_26 kV_26 dc_26 pm_26 cd_26 ct_26 : Value}
    {f_27 : Addr} {od_27 an_27 : Option Addr} {sl_27 : Array (Option Value)} {oc_27 kV_27 dc_27 pm_27 cd_27 ct_27 : Value}
    {f_28 : Addr} {od_28 an_28 : Option Addr} {sl_28 : Array (Option Value)} {oc_28 kV_28 dc_28 pm_28 cd_28 ct_28 : Value}
    {f_29 : Addr} {od_29 an_29 : Option Addr} {sl_29 : Array (Option Value)} {oc_29 kV_29 dc_29 pm_29 cd_29 ct_29 : Value}
    {f_30 : Addr} {od_30 an_30 : Option Addr} {sl_30 : Array (Option Value)} {oc_30 kV_30 dc_30 pm_30 cd_30 ct_30 : Value}
    {f_31 : Addr} {od_31 an_31 : Option Addr} {sl_31 : Array (Option Value)} {oc_31 kV_31 dc_31 pm_31 cd_31 ct_31 : Value}
    {f_32 : Addr} {od_32 an_32 : Option Addr} {sl_32 : Array (Option Value)} {oc_32 kV_32 dc_32 pm_32 cd_32 ct_32 : Value}
    {f_33 : Addr} {od_33 an_33 : Option Addr} {sl_33 : Array (Option Value)} {oc_33 kV_33 dc_33 pm_33 cd_33 ct_33 : Value}
    {f_34 : Addr} {od_34 an_34 : Option Addr} {sl_34 : Array (Option Value)} {oc_34 kV_34 dc_34 pm_34 cd_34 ct_34 : Value}
    {f_35 : Addr} {od_35 an_35 : Option Addr} {sl_35 : Array (Option Value)} {oc_35 kV_35 dc_35 pm_35 cd_35 ct_35 : Value}
    {f_36 : Addr} {od_36 an_36 : Option Addr} {sl_36 : Array (Option Value)} {oc_36 kV_36 dc_36 pm_36 cd_36 ct_36 : Value}
    {C_Move : Addr}
    {p_Move_east : Addr} {rest_Move_east : List Value}
    {p_Move_north : Addr} {rest_Move_north : List Value}
    {p_Move_area : Addr} {rest_Move_area : List Value}
    {tk_MOST : Tok}
    {A_PLAIN : Addr}
    {od_A_PLAIN : Option Addr} {n_A_PLAIN : Nat} {sl_A_PLAIN : Array (Option Value)} {u0_A_PLAIN u1_A_PLAIN u2_A_PLAIN : Tok}
    {A_STEPS : Addr}
    {es_STEPS : Array DictEntry} {n_STEPS : Nat}
    {A_ste : Addr}
    {od_A_ste : Option Addr} {n_A_ste : Nat} {sl_A_ste : Array (Option Value)} {u0_A_ste u1_A_ste u2_A_ste : Tok}
    {A_stn : Addr}
    {od_A_stn : Option Addr} {n_A_stn : Nat} {sl_A_stn : Array (Option Value)} {u0_A_stn u1_A_stn u2_A_stn : Tok}
    {A_stw : Addr}
    {od_A_stw : Option Addr} {n_A_stw : Nat} {sl_A_stw : Array (Option Value)} {u0_A_stw u1_A_stw u2_A_stw : Tok}
    {A_sts : Addr}
    {od_A_sts : Option Addr} {n_A_sts : Nat} {sl_A_sts : Array (Option Value)} {u0_A_sts u1_A_sts u2_A_sts : Tok}
    (a_1 : PySem.W.nsIn K mainGlobals "is_integer" = some (some (.ref f_1)))
    (a_2 : PySem.W.nsIn K mainGlobals "check_whole" = some (some (.ref f_2)))
    (a_9 : PySem.W.nsIn K mainGlobals "check_move" = some (some (.ref f_9)))
    (a_10 : PySem.W.nsIn K mainGlobals "check_moves" = some (some (.ref f_10)))
    (a_11 : PySem.W.nsIn K mainGlobals "triple" = some (some (.ref f_11)))
    (a_12 : PySem.W.nsIn K mainGlobals "put_triples" = some (some (.ref f_12)))
    (a_13 : PySem.W.nsIn K mainGlobals "back_triple" = some (some (.ref f_13)))
    (a_14 : PySem.W.nsIn K mainGlobals "many_triples" = some (some (.ref f_14)))
    (a_15 : PySem.W.nsIn K mainGlobals "gap_of" = some (some (.ref f_15)))
    (a_16 : PySem.W.nsIn K mainGlobals "made_move" = some (some (.ref f_16)))
    (a_17 : PySem.W.nsIn K mainGlobals "move_then" = some (some (.ref f_17)))
    (a_18 : PySem.W.nsIn K mainGlobals "move_undone" = some (some (.ref f_18)))
    (a_19 : PySem.W.nsIn K mainGlobals "move_often" = some (some (.ref f_19)))
    (a_20 : PySem.W.nsIn K mainGlobals "move_order" = some (some (.ref f_20)))
    (a_21 : PySem.W.nsIn K mainGlobals "move_gap" = some (some (.ref f_21)))
    (a_22 : PySem.W.nsIn K mainGlobals "move_walked" = some (some (.ref f_22)))
    (a_23 : PySem.W.nsIn K mainGlobals "_law_reel" = some (some (.ref f_23)))
    (a_24 : PySem.W.nsIn K mainGlobals "_law_wind" = some (some (.ref f_24)))
    (a_25 : PySem.W.nsIn K mainGlobals "_law_one_of" = some (some (.ref f_25)))
    (a_26 : PySem.W.nsIn K mainGlobals "_law_trip" = some (some (.ref f_26)))
    (a_27 : PySem.W.nsIn K mainGlobals "_law_move" = some (some (.ref f_27)))
    (a_28 : PySem.W.nsIn K mainGlobals "_law_three" = some (some (.ref f_28)))
    (a_29 : PySem.W.nsIn K mainGlobals "_law_square" = some (some (.ref f_29)))
    (a_30 : PySem.W.nsIn K mainGlobals "_law_times" = some (some (.ref f_30)))
    (a_31 : PySem.W.nsIn K mainGlobals "_law_all" = some (some (.ref f_31)))
    (a_32 : PySem.W.nsIn K mainGlobals "_law_pair_right" = some (some (.ref f_32)))
    (a_33 : PySem.W.nsIn K mainGlobals "_law_often_right" = some (some (.ref f_33)))
    (a_34 : PySem.W.nsIn K mainGlobals "_law_walks_right" = some (some (.ref f_34)))
    (a_35 : PySem.W.nsIn K mainGlobals "_law_right" = some (some (.ref f_35)))
    (a_36 : PySem.W.nsIn K mainGlobals "law" = some (some (.ref f_36)))
    (q_Move : PySem.W.nsIn K mainGlobals "Move" = some (some (.ref C_Move)))
    (pa_Move_east : PySem.W.findIn K (.ref C_Move) "east" = some (some (.ref p_Move_east)))
    (pg_Move_east : PySem.W.specialIn K (.ref p_Move_east) "__get__" = some (some (.builtin "property.__get__")))
    (pt_Move_east : PySem.W.takesIn K (.ref p_Move_east) = some true)
    (pr_Move_east : PySem.W.recIn K p_Move_east "property" = some (.ref f_4 :: rest_Move_east))
    (pa_Move_north : PySem.W.findIn K (.ref C_Move) "north" = some (some (.ref p_Move_north)))
    (pg_Move_north : PySem.W.specialIn K (.ref p_Move_north) "__get__" = some (some (.builtin "property.__get__")))
    (pt_Move_north : PySem.W.takesIn K (.ref p_Move_north) = some true)
    (pr_Move_north : PySem.W.recIn K p_Move_north "property" = some (.ref f_5 :: rest_Move_north))
    (pa_Move_area : PySem.W.findIn K (.ref C_Move) "area" = some (some (.ref p_Move_area)))
    (pg_Move_area : PySem.W.specialIn K (.ref p_Move_area) "__get__" = some (some (.builtin "property.__get__")))
    (pt_Move_area : PySem.W.takesIn K (.ref p_Move_area) = some true)
    (pr_Move_area : PySem.W.recIn K p_Move_area "property" = some (.ref f_6 :: rest_Move_area))
    (in_Move : PySem.W.findIn K (.ref C_Move) "__init__" = some (some (.ref f_3)))
    (if_Move : PySem.W.isFn K (.ref f_3) = true)
    (mk_Move : PySem.W.makesIn K C_Move = true)
    (kc_Move : PySem.W.keepIn K (.ref C_Move) = true)
    (pg_Move : PySem.W.plainGet K C_Move Str.empty = true)
    (hd_Move : PySem.W.hasDictIn K C_Move = true)
    (po_Move : PySem.W.plainOver K C_Move = true)
    (sa_Move : PySem.W.findIn K (.ref C_Move) "__setattr__" = some (some (.builtin "object.__setattr__")))
    (ha_Move : PySem.W.findIn K (.ref C_Move) "__class__" = some (some (.builtin "object.__class__")))
    (hn_Move : PySem.W.specialIn K (.builtin "object.__class__") "__get__" = some (some (.builtin "getset_descriptor.__get__")))
    (ht_Move : PySem.W.takesIn K (.builtin "object.__class__") = some true)
    (hm_Move : PySem.W.mroIn K C_Move (.type "object") = some true)
    (nf_Move_own_east : PySem.W.findIn K (.ref C_Move) "own_east" = some none)
    (nf_Move_own_north : PySem.W.findIn K (.ref C_Move) "own_north" = some none)
    (nf_Move_own_area : PySem.W.findIn K (.ref C_Move) "own_area" = some none)
    (st_Move : PySem.W.findIn K (.ref C_Move) "__str__" = some (some (.ref f_7)))
    (sf_Move : PySem.W.isFn K (.ref f_7) = true)
    (eq_Move : PySem.W.findIn K (.ref C_Move) "__eq__" = some (some (.ref f_8)))
    (ef_Move : PySem.W.isFn K (.ref f_8) = true)
    (ne_Move : PySem.W.findIn K (.ref C_Move) "__ne__" = some (some (.builtin "object.__ne__")))
    (l_1 : K.lookup f_1 = some ⟨oc_1, od_1, .func (PySem.W.fnOf "is_integer" "is_integer" (defArgs s_is_integer) (defBody s_is_integer) (defScope s_is_integer) .none kV_1 dc_1 pm_1 an_1 cd_1 ct_1), sl_1⟩)
    (c_1 : PySem.W.codeIn K cd_1 "is_integer" = true)
    (k_1 : PySem.W.keepIn K (.ref f_1) = true)
    (l_2 : K.lookup f_2 = some ⟨oc_2, od_2, .func (PySem.W.fnOf "check_whole" "check_whole" (defArgs s_check_whole) (defBody s_check_whole) (defScope s_check_whole) .none kV_2 dc_2 pm_2 an_2 cd_2 ct_2), sl_2⟩)
    (c_2 : PySem.W.codeIn K cd_2 "check_whole" = true)
    (k_2 : PySem.W.keepIn K (.ref f_2) = true)
    (l_3 : K.lookup f_3 = some ⟨oc_3, od_3, .func (PySem.W.fnOf "__init__" "Move.__init__" (defArgs s_Move_init) (defBody s_Move_init) (defScope s_Move_init) .none kV_3 dc_3 pm_3 an_3 cd_3 ct_3), sl_3⟩)
    (c_3 : PySem.W.codeIn K cd_3 "Move.__init__" = true)
    (k_3 : PySem.W.keepIn K (.ref f_3) = true)
    (l_4 : K.lookup f_4 = some ⟨oc_4, od_4, .func (PySem.W.fnOf "east" "Move.east" (defArgs s_Move_east) (defBody s_Move_east) (defScope s_Move_east) .none kV_4 dc_4 pm_4 an_4 cd_4 ct_4), sl_4⟩)
    (c_4 : PySem.W.codeIn K cd_4 "Move.east" = true)
    (k_4 : PySem.W.keepIn K (.ref f_4) = true)
    (l_5 : K.lookup f_5 = some ⟨oc_5, od_5, .func (PySem.W.fnOf "north" "Move.north" (defArgs s_Move_north) (defBody s_Move_north) (defScope s_Move_north) .none kV_5 dc_5 pm_5 an_5 cd_5 ct_5), sl_5⟩)
    (c_5 : PySem.W.codeIn K cd_5 "Move.north" = true)
    (k_5 : PySem.W.keepIn K (.ref f_5) = true)
    (l_6 : K.lookup f_6 = some ⟨oc_6, od_6, .func (PySem.W.fnOf "area" "Move.area" (defArgs s_Move_area) (defBody s_Move_area) (defScope s_Move_area) .none kV_6 dc_6 pm_6 an_6 cd_6 ct_6), sl_6⟩)
    (c_6 : PySem.W.codeIn K cd_6 "Move.area" = true)
    (k_6 : PySem.W.keepIn K (.ref f_6) = true)
    (l_7 : K.lookup f_7 = some ⟨oc_7, od_7, .func (PySem.W.fnOf "__str__" "Move.__str__" (defArgs s_Move_str) (defBody s_Move_str) (defScope s_Move_str) .none kV_7 dc_7 pm_7 an_7 cd_7 ct_7), sl_7⟩)
    (c_7 : PySem.W.codeIn K cd_7 "Move.__str__" = true)
    (k_7 : PySem.W.keepIn K (.ref f_7) = true)
    (l_8 : K.lookup f_8 = some ⟨oc_8, od_8, .func (PySem.W.fnOf "__eq__" "Move.__eq__" (defArgs s_Move_eq) (defBody s_Move_eq) (defScope s_Move_eq) .none kV_8 dc_8 pm_8 an_8 cd_8 ct_8), sl_8⟩)
    (c_8 : PySem.W.codeIn K cd_8 "Move.__eq__" = true)
    (k_8 : PySem.W.keepIn K (.ref f_8) = true)
    (l_9 : K.lookup f_9 = some ⟨oc_9, od_9, .func (PySem.W.fnOf "check_move" "check_move" (defArgs s_check_move) (defBody s_check_move) (defScope s_check_move) .none kV_9 dc_9 pm_9 an_9 cd_9 ct_9), sl_9⟩)
    (c_9 : PySem.W.codeIn K cd_9 "check_move" = true)
    (k_9 : PySem.W.keepIn K (.ref f_9) = true)
    (l_10 : K.lookup f_10 = some ⟨oc_10, od_10, .func (PySem.W.fnOf "check_moves" "check_moves" (defArgs s_check_moves) (defBody s_check_moves) (defScope s_check_moves) .none kV_10 dc_10 pm_10 an_10 cd_10 ct_10), sl_10⟩)
    (c_10 : PySem.W.codeIn K cd_10 "check_moves" = true)
    (k_10 : PySem.W.keepIn K (.ref f_10) = true)
    (l_11 : K.lookup f_11 = some ⟨oc_11, od_11, .func (PySem.W.fnOf "triple" "triple" (defArgs s_triple) (defBody s_triple) (defScope s_triple) .none kV_11 dc_11 pm_11 an_11 cd_11 ct_11), sl_11⟩)
    (c_11 : PySem.W.codeIn K cd_11 "triple" = true)
    (k_11 : PySem.W.keepIn K (.ref f_11) = true)
    (l_12 : K.lookup f_12 = some ⟨oc_12, od_12, .func (PySem.W.fnOf "put_triples" "put_triples" (defArgs s_put_triples) (defBody s_put_triples) (defScope s_put_triples) .none kV_12 dc_12 pm_12 an_12 cd_12 ct_12), sl_12⟩)
    (c_12 : PySem.W.codeIn K cd_12 "put_triples" = true)
    (k_12 : PySem.W.keepIn K (.ref f_12) = true)
    (l_13 : K.lookup f_13 = some ⟨oc_13, od_13, .func (PySem.W.fnOf "back_triple" "back_triple" (defArgs s_back_triple) (defBody s_back_triple) (defScope s_back_triple) .none kV_13 dc_13 pm_13 an_13 cd_13 ct_13), sl_13⟩)
    (c_13 : PySem.W.codeIn K cd_13 "back_triple" = true)
    (k_13 : PySem.W.keepIn K (.ref f_13) = true)
    (l_14 : K.lookup f_14 = some ⟨oc_14, od_14, .func (PySem.W.fnOf "many_triples" "many_triples" (defArgs s_many_triples) (defBody s_many_triples) (defScope s_many_triples) .none kV_14 dc_14 pm_14 an_14 cd_14 ct_14), sl_14⟩)
    (c_14 : PySem.W.codeIn K cd_14 "many_triples" = true)
    (k_14 : PySem.W.keepIn K (.ref f_14) = true)
    (l_15 : K.lookup f_15 = some ⟨oc_15, od_15, .func (PySem.W.fnOf "gap_of" "gap_of" (defArgs s_gap_of) (defBody s_gap_of) (defScope s_gap_of) .none kV_15 dc_15 pm_15 an_15 cd_15 ct_15), sl_15⟩)
    (c_15 : PySem.W.codeIn K cd_15 "gap_of" = true)
    (k_15 : PySem.W.keepIn K (.ref f_15) = true)
    (l_16 : K.lookup f_16 = some ⟨oc_16, od_16, .func (PySem.W.fnOf "made_move" "made_move" (defArgs s_made_move) (defBody s_made_move) (defScope s_made_move) .none kV_16 dc_16 pm_16 an_16 cd_16 ct_16), sl_16⟩)
    (c_16 : PySem.W.codeIn K cd_16 "made_move" = true)
    (k_16 : PySem.W.keepIn K (.ref f_16) = true)
    (l_17 : K.lookup f_17 = some ⟨oc_17, od_17, .func (PySem.W.fnOf "move_then" "move_then" (defArgs s_move_then) (defBody s_move_then) (defScope s_move_then) .none kV_17 dc_17 pm_17 an_17 cd_17 ct_17), sl_17⟩)
    (c_17 : PySem.W.codeIn K cd_17 "move_then" = true)
    (k_17 : PySem.W.keepIn K (.ref f_17) = true)
    (l_18 : K.lookup f_18 = some ⟨oc_18, od_18, .func (PySem.W.fnOf "move_undone" "move_undone" (defArgs s_move_undone) (defBody s_move_undone) (defScope s_move_undone) .none kV_18 dc_18 pm_18 an_18 cd_18 ct_18), sl_18⟩)
    (c_18 : PySem.W.codeIn K cd_18 "move_undone" = true)
    (k_18 : PySem.W.keepIn K (.ref f_18) = true)
    (l_19 : K.lookup f_19 = some ⟨oc_19, od_19, .func (PySem.W.fnOf "move_often" "move_often" (defArgs s_move_often) (defBody s_move_often) (defScope s_move_often) .none kV_19 dc_19 pm_19 an_19 cd_19 ct_19), sl_19⟩)
    (c_19 : PySem.W.codeIn K cd_19 "move_often" = true)
    (k_19 : PySem.W.keepIn K (.ref f_19) = true)
    (l_20 : K.lookup f_20 = some ⟨oc_20, od_20, .func (PySem.W.fnOf "move_order" "move_order" (defArgs s_move_order) (defBody s_move_order) (defScope s_move_order) .none kV_20 dc_20 pm_20 an_20 cd_20 ct_20), sl_20⟩)
    (c_20 : PySem.W.codeIn K cd_20 "move_order" = true)
    (k_20 : PySem.W.keepIn K (.ref f_20) = true)
    (l_21 : K.lookup f_21 = some ⟨oc_21, od_21, .func (PySem.W.fnOf "move_gap" "move_gap" (defArgs s_move_gap) (defBody s_move_gap) (defScope s_move_gap) .none kV_21 dc_21 pm_21 an_21 cd_21 ct_21), sl_21⟩)
    (c_21 : PySem.W.codeIn K cd_21 "move_gap" = true)
    (k_21 : PySem.W.keepIn K (.ref f_21) = true)
    (l_22 : K.lookup f_22 = some ⟨oc_22, od_22, .func (PySem.W.fnOf "move_walked" "move_walked" (defArgs s_move_walked) (defBody s_move_walked) (defScope s_move_walked) .none kV_22 dc_22 pm_22 an_22 cd_22 ct_22), sl_22⟩)
    (c_22 : PySem.W.codeIn K cd_22 "move_walked" = true)
    (k_22 : PySem.W.keepIn K (.ref f_22) = true)
    (l_23 : K.lookup f_23 = some ⟨oc_23, od_23, .func (PySem.W.fnOf "_law_reel" "_law_reel" (defArgs s_l_reel) (defBody s_l_reel) (defScope s_l_reel) .none kV_23 dc_23 pm_23 an_23 cd_23 ct_23), sl_23⟩)
    (c_23 : PySem.W.codeIn K cd_23 "_law_reel" = true)
    (k_23 : PySem.W.keepIn K (.ref f_23) = true)
    (l_24 : K.lookup f_24 = some ⟨oc_24, od_24, .func (PySem.W.fnOf "_law_wind" "_law_wind" (defArgs s_l_wind) (defBody s_l_wind) (defScope s_l_wind) .none kV_24 dc_24 pm_24 an_24 cd_24 ct_24), sl_24⟩)
    (c_24 : PySem.W.codeIn K cd_24 "_law_wind" = true)
    (k_24 : PySem.W.keepIn K (.ref f_24) = true)
    (l_25 : K.lookup f_25 = some ⟨oc_25, od_25, .func (PySem.W.fnOf "_law_one_of" "_law_one_of" (defArgs s_l_one_of) (defBody s_l_one_of) (defScope s_l_one_of) .none kV_25 dc_25 pm_25 an_25 cd_25 ct_25), sl_25⟩)
    (c_25 : PySem.W.codeIn K cd_25 "_law_one_of" = true)
    (k_25 : PySem.W.keepIn K (.ref f_25) = true)
    (l_26 : K.lookup f_26 = some ⟨oc_26, od_26, .func (PySem.W.fnOf "_law_trip" "_law_trip" (defArgs s_l_trip) (defBody s_l_trip) (defScope s_l_trip) .none kV_26 dc_26 pm_26 an_26 cd_26 ct_26), sl_26⟩)
    (c_26 : PySem.W.codeIn K cd_26 "_law_trip" = true)
    (k_26 : PySem.W.keepIn K (.ref f_26) = true)
    (l_27 : K.lookup f_27 = some ⟨oc_27, od_27, .func (PySem.W.fnOf "_law_move" "_law_move" (defArgs s_l_move) (defBody s_l_move) (defScope s_l_move) .none kV_27 dc_27 pm_27 an_27 cd_27 ct_27), sl_27⟩)
    (c_27 : PySem.W.codeIn K cd_27 "_law_move" = true)
    (k_27 : PySem.W.keepIn K (.ref f_27) = true)
    (l_28 : K.lookup f_28 = some ⟨oc_28, od_28, .func (PySem.W.fnOf "_law_three" "_law_three" (defArgs s_l_three) (defBody s_l_three) (defScope s_l_three) .none kV_28 dc_28 pm_28 an_28 cd_28 ct_28), sl_28⟩)
    (c_28 : PySem.W.codeIn K cd_28 "_law_three" = true)
    (k_28 : PySem.W.keepIn K (.ref f_28) = true)
    (l_29 : K.lookup f_29 = some ⟨oc_29, od_29, .func (PySem.W.fnOf "_law_square" "_law_square" (defArgs s_l_square) (defBody s_l_square) (defScope s_l_square) .none kV_29 dc_29 pm_29 an_29 cd_29 ct_29), sl_29⟩)
    (c_29 : PySem.W.codeIn K cd_29 "_law_square" = true)
    (k_29 : PySem.W.keepIn K (.ref f_29) = true)
    (l_30 : K.lookup f_30 = some ⟨oc_30, od_30, .func (PySem.W.fnOf "_law_times" "_law_times" (defArgs s_l_times) (defBody s_l_times) (defScope s_l_times) .none kV_30 dc_30 pm_30 an_30 cd_30 ct_30), sl_30⟩)
    (c_30 : PySem.W.codeIn K cd_30 "_law_times" = true)
    (k_30 : PySem.W.keepIn K (.ref f_30) = true)
    (l_31 : K.lookup f_31 = some ⟨oc_31, od_31, .func (PySem.W.fnOf "_law_all" "_law_all" (defArgs s_l_all) (defBody s_l_all) (defScope s_l_all) .none kV_31 dc_31 pm_31 an_31 cd_31 ct_31), sl_31⟩)
    (c_31 : PySem.W.codeIn K cd_31 "_law_all" = true)
    (k_31 : PySem.W.keepIn K (.ref f_31) = true)
    (l_32 : K.lookup f_32 = some ⟨oc_32, od_32, .func (PySem.W.fnOf "_law_pair_right" "_law_pair_right" (defArgs s_l_pair_right) (defBody s_l_pair_right) (defScope s_l_pair_right) .none kV_32 dc_32 pm_32 an_32 cd_32 ct_32), sl_32⟩)
    (c_32 : PySem.W.codeIn K cd_32 "_law_pair_right" = true)
    (k_32 : PySem.W.keepIn K (.ref f_32) = true)
    (l_33 : K.lookup f_33 = some ⟨oc_33, od_33, .func (PySem.W.fnOf "_law_often_right" "_law_often_right" (defArgs s_l_often_right) (defBody s_l_often_right) (defScope s_l_often_right) .none kV_33 dc_33 pm_33 an_33 cd_33 ct_33), sl_33⟩)
    (c_33 : PySem.W.codeIn K cd_33 "_law_often_right" = true)
    (k_33 : PySem.W.keepIn K (.ref f_33) = true)
    (l_34 : K.lookup f_34 = some ⟨oc_34, od_34, .func (PySem.W.fnOf "_law_walks_right" "_law_walks_right" (defArgs s_l_walks_right) (defBody s_l_walks_right) (defScope s_l_walks_right) .none kV_34 dc_34 pm_34 an_34 cd_34 ct_34), sl_34⟩)
    (c_34 : PySem.W.codeIn K cd_34 "_law_walks_right" = true)
    (k_34 : PySem.W.keepIn K (.ref f_34) = true)
    (l_35 : K.lookup f_35 = some ⟨oc_35, od_35, .func (PySem.W.fnOf "_law_right" "_law_right" (defArgs s_l_right) (defBody s_l_right) (defScope s_l_right) .none kV_35 dc_35 pm_35 an_35 cd_35 ct_35), sl_35⟩)
    (c_35 : PySem.W.codeIn K cd_35 "_law_right" = true)
    (k_35 : PySem.W.keepIn K (.ref f_35) = true)
    (l_36 : K.lookup f_36 = some ⟨oc_36, od_36, .func (PySem.W.fnOf "law" "law" (defArgs s_law) (defBody s_law) (defScope s_law) .none kV_36 dc_36 pm_36 an_36 cd_36 ct_36), sl_36⟩)
    (c_36 : PySem.W.codeIn K cd_36 "law" = true)
    (k_36 : PySem.W.keepIn K (.ref f_36) = true)
    (z_abs : PySem.W.nsIn K mainGlobals "abs" = some none)
    (z_all : PySem.W.nsIn K mainGlobals "all" = some none)
    (z_bool : PySem.W.nsIn K mainGlobals "bool" = some none)
    (z_divmod : PySem.W.nsIn K mainGlobals "divmod" = some none)
    (z_int : PySem.W.nsIn K mainGlobals "int" = some none)
    (z_isinstance : PySem.W.nsIn K mainGlobals "isinstance" = some none)
    (z_len : PySem.W.nsIn K mainGlobals "len" = some none)
    (z_range : PySem.W.nsIn K mainGlobals "range" = some none)
    (z_repr : PySem.W.nsIn K mainGlobals "repr" = some none)
    (z_str : PySem.W.nsIn K mainGlobals "str" = some none)
    (z_sum : PySem.W.nsIn K mainGlobals "sum" = some none)
    (z_tuple : PySem.W.nsIn K mainGlobals "tuple" = some none)
    (q_MOST : PySem.W.nsIn K mainGlobals "MOST_STEPS" = some (some (.int 4000 tk_MOST)))
    (q_PLAIN : PySem.W.nsIn K mainGlobals "PLAIN" = some (some (.ref A_PLAIN)))
    (l_PLAIN : K.lookup A_PLAIN = some ⟨.type "tuple", od_A_PLAIN, .seq #[.int (0) u0_A_PLAIN, .int (0) u1_A_PLAIN, .int (0) u2_A_PLAIN] n_A_PLAIN, sl_A_PLAIN⟩)
    (q_STEPS : PySem.W.nsIn K mainGlobals "STEPS" = some (some (.ref A_STEPS)))
    (l_STEPS : K.lookup A_STEPS = some ⟨.type "dict", none, .dict es_STEPS n_STEPS, #[]⟩)
    (kl_STEPS : PySem.W.KeysLit w.params es_STEPS.toList)
    (lo_STEPS : (A_STEPS == sysModules) = false)
    (qs_e : PySem.W.nsIn K A_STEPS "e" = some (some (.ref A_ste)))
    (ls_e : K.lookup A_ste = some ⟨.type "tuple", od_A_ste, .seq #[.int (1) u0_A_ste, .int (0) u1_A_ste, .int (0) u2_A_ste] n_A_ste, sl_A_ste⟩)
    (qs_n : PySem.W.nsIn K A_STEPS "n" = some (some (.ref A_stn)))
    (ls_n : K.lookup A_stn = some ⟨.type "tuple", od_A_stn, .seq #[.int (0) u0_A_stn, .int (1) u1_A_stn, .int (0) u2_A_stn] n_A_stn, sl_A_stn⟩)
    (qs_w : PySem.W.nsIn K A_STEPS "w" = some (some (.ref A_stw)))
    (ls_w : K.lookup A_stw = some ⟨.type "tuple", od_A_stw, .seq #[.int (-1) u0_A_stw, .int (0) u1_A_stw, .int (0) u2_A_stw] n_A_stw, sl_A_stw⟩)
    (qs_s : PySem.W.nsIn K A_STEPS "s" = some (some (.ref A_sts)))
    (ls_s : K.lookup A_sts = some ⟨.type "tuple", od_A_sts, .seq #[.int (0) u0_A_sts, .int (-1) u1_A_sts, .int (0) u2_A_sts] n_A_sts, sl_A_sts⟩)
    : ∃ fd : FuncData, (∀ (s : Shared) (v : Value), BindsTo s fd ⟨[v], []⟩ [("_law_script", v)]) ∧
      ∀ base : Heap, K.In base → base.Ns mainGlobals mg → FnG P w K mg base 14 fa fd ["_law_script"] (spLaw K) := by
  have e := hfa.symm.trans (PySem.W.mg_of X G a_36)
  cases e
  have F_1 := fun_mk (st := s_is_integer) l_1 c_1 k_1
  have F_2 := fun_mk (st := s_check_whole) l_2 c_2 k_2
  have F_3 := fun_mk (st := s_Move_init) l_3 c_3 k_3
  have F_4 := fun_mk (st := s_Move_east) l_4 c_4 k_4
  have F_5 := fun_mk (st := s_Move_north) l_5 c_5 k_5
  have F_6 := fun_mk (st := s_Move_area) l_6 c_6 k_6
  have F_7 := fun_mk (st := s_Move_str) l_7 c_7 k_7
  have F_8 := fun_mk (st := s_Move_eq) l_8 c_8 k_8
  have F_9 := fun_mk (st := s_check_move) l_9 c_9 k_9
  have F_10 := fun_mk (st := s_check_moves) l_10 c_10 k_10
  have F_11 := fun_mk (st := s_triple) l_11 c_11 k_11
  have F_12 := fun_mk (st := s_put_triples) l_12 c_12 k_12
  have F_13 := fun_mk (st := s_back_triple) l_13 c_13 k_13
  have F_14 := fun_mk (st := s_many_triples) l_14 c_14 k_14
  have F_15 := fun_mk (st := s_gap_of) l_15 c_15 k_15
  have F_16 := fun_mk (st := s_made_move) l_16 c_16 k_16
  have F_17 := fun_mk (st := s_move_then) l_17 c_17 k_17
  have F_18 := fun_mk (st := s_move_undone) l_18 c_18 k_18
  have F_19 := fun_mk (st := s_move_often) l_19 c_19 k_19
  have F_20 := fun_mk (st := s_move_order) l_20 c_20 k_20
  have F_21 := fun_mk (st := s_move_gap) l_21 c_21 k_21
  have F_22 := fun_mk (st := s_move_walked) l_22 c_22 k_22
  have F_23 := fun_mk (st := s_l_reel) l_23 c_23 k_23
  have F_24 := fun_mk (st := s_l_wind) l_24 c_24 k_24
  have F_25 := fun_mk (st := s_l_one_of) l_25 c_25 k_25
  have F_26 := fun_mk (st := s_l_trip) l_26 c_26 k_26
  have F_27 := fun_mk (st := s_l_move) l_27 c_27 k_27
  have F_28 := fun_mk (st := s_l_three) l_28 c_28 k_28
  have F_29 := fun_mk (st := s_l_square) l_29 c_29 k_29
  have F_30 := fun_mk (st := s_l_times) l_30 c_30 k_30
  have F_31 := fun_mk (st := s_l_all) l_31 c_31 k_31
  have F_32 := fun_mk (st := s_l_pair_right) l_32 c_32 k_32
  have F_33 := fun_mk (st := s_l_often_right) l_33 c_33 k_33
  have F_34 := fun_mk (st := s_l_walks_right) l_34 c_34 k_34
  have F_35 := fun_mk (st := s_l_right) l_35 c_35 k_35
  have F_36 := fun_mk (st := s_law) l_36 c_36 k_36
  have T : Txt K w mg { f_is_integer := f_1, d_is_integer := _, f_check_whole := f_2, d_check_whole := _, f_Move_init := f_3, d_Move_init := _, f_Move_east := f_4, d_Move_east := _, f_Move_north := f_5, d_Move_north := _, f_Move_area := f_6, d_Move_area := _, f_Move_str := f_7, d_Move_str := _, f_Move_eq := f_8, d_Move_eq := _, f_check_move := f_9, d_check_move := _, f_check_moves := f_10, d_check_moves := _, f_triple := f_11, d_triple := _, f_put_triples := f_12, d_put_triples := _, f_back_triple := f_13, d_back_triple := _, f_many_triples := f_14, d_many_triples := _, f_gap_of := f_15, d_gap_of := _, f_made_move := f_16, d_made_move := _, f_move_then := f_17, d_move_then := _, f_move_undone := f_18, d_move_undone := _, f_move_often := f_19, d_move_often := _, f_move_order := f_20, d_move_order := _, f_move_gap := f_21, d_move_gap := _, f_move_walked := f_22, d_move_walked := _, f_l_reel := f_23, d_l_reel := _, f_l_wind := f_24, d_l_wind := _, f_l_one_of := f_25, d_l_one_of := _, f_l_trip := f_26, d_l_trip := _, f_l_move := f_27, d_l_move := _, f_l_three := f_28, d_l_three := _, f_l_square := f_29, d_l_square := _, f_l_times := f_30, d_l_times := _, f_l_all := f_31, d_l_all := _, f_l_pair_right := f_32, d_l_pair_right := _, f_l_often_right := f_33, d_l_often_right := _, f_l_walks_right := f_34, d_l_walks_right := _, f_l_right := f_35, d_l_right := _, f_law := fa, d_law := _, C_Move := C_Move, p_Move_east := p_Move_east, p_Move_north := p_Move_north, p_Move_area := p_Move_area, A_PLAIN := A_PLAIN, A_STEPS := A_STEPS, A_ste := A_ste, A_stn := A_stn, A_stw := A_stw, A_sts := A_sts } :=
    { F_is_integer := (F_1)
      b_is_integer := (F_1.binds fun _ _ _ _ _ _ us hl => match us, hl with | [_], _ => rfl)
      g_is_integer := (PySem.W.mg_of X G a_1)
      F_check_whole := (F_2)
      b_check_whole := (F_2.binds fun _ _ _ _ _ _ us hl => match us, hl with | [_], _ => rfl)
      g_check_whole := (PySem.W.mg_of X G a_2)
      F_Move_init := (F_3)
      b_Move_init := (F_3.binds fun _ _ _ _ _ _ us hl => match us, hl with | [_, _, _, _], _ => rfl)
      F_Move_east := (F_4)
      b_Move_east := (F_4.binds fun _ _ _ _ _ _ us hl => match us, hl with | [_], _ => rfl)
      F_Move_north := (F_5)
      b_Move_north := (F_5.binds fun _ _ _ _ _ _ us hl => match us, hl with | [_], _ => rfl)
      F_Move_area := (F_6)
      b_Move_area := (F_6.binds fun _ _ _ _ _ _ us hl => match us, hl with | [_], _ => rfl)
      F_Move_str := (F_7)
      b_Move_str := (F_7.binds fun _ _ _ _ _ _ us hl => match us, hl with | [_], _ => rfl)
      F_Move_eq := (F_8)
      b_Move_eq := (F_8.binds fun _ _ _ _ _ _ us hl => match us, hl with | [_, _], _ => rfl)
      F_check_move := (F_9)
      b_check_move := (F_9.binds fun _ _ _ _ _ _ us hl => match us, hl with | [_], _ => rfl)
      g_check_move := (PySem.W.mg_of X G a_9)
      F_check_moves := (F_10)
      b_check_moves := (F_10.binds fun _ _ _ _ _ _ us hl => match us, hl with | [_, _], _ => rfl)
      g_check_moves := (PySem.W.mg_of X G a_10)
      F_triple := (F_11)
      b_triple := (F_11.binds fun _ _ _ _ _ _ us hl => match us, hl with | [_], _ => rfl)
      g_triple := (PySem.W.mg_of X G a_11)
      F_put_triples := (F_12)
      b_put_triples := (F_12.binds fun _ _ _ _ _ _ us hl => match us, hl with | [_, _], _ => rfl)
      g_put_triples := (PySem.W.mg_of X G a_12)
      F_back_triple := (F_13)
      b_back_triple := (F_13.binds fun _ _ _ _ _ _ us hl => match us, hl with | [_], _ => rfl)
      g_back_triple := (PySem.W.mg_of X G a_13)
      F_many_triples := (F_14)
      b_many_triples := (F_14.binds fun _ _ _ _ _ _ us hl => match us, hl with | [_, _], _ => rfl)
      g_many_triples := (PySem.W.mg_of X G a_14)
      F_gap_of := (F_15)
      b_gap_of := (F_15.binds fun _ _ _ _ _ _ us hl => match us, hl with | [_, _], _ => rfl)
      g_gap_of := (PySem.W.mg_of X G a_15)
      F_made_move := (F_16)
      b_made_move := (F_16.binds fun _ _ _ _ _ _ us hl => match us, hl with | [_], _ => rfl)
      g_made_move := (PySem.W.mg_of X G a_16)
      F_move_then := (F_17)
      b_move_then := (F_17.binds fun _ _ _ _ _ _ us hl => match us, hl with | [_, _], _ => rfl)
      g_move_then := (PySem.W.mg_of X G a_17)
      F_move_undone := (F_18)
      b_move_undone := (F_18.binds fun _ _ _ _ _ _ us hl => match us, hl with | [_], _ => rfl)
      g_move_undone := (PySem.W.mg_of X G a_18)
      F_move_often := (F_19)
      b_move_often := (F_19.binds fun _ _ _ _ _ _ us hl => match us, hl with | [_, _], _ => rfl)
      g_move_often := (PySem.W.mg_of X G a_19)
      F_move_order := (F_20)
      b_move_order := (F_20.binds fun _ _ _ _ _ _ us hl => match us, hl with | [_], _ => rfl)
      g_move_order := (PySem.W.mg_of X G a_20)
      F_move_gap := (F_21)
      b_move_gap := (F_21.binds fun _ _ _ _ _ _ us hl => match us, hl with | [_, _], _ => rfl)
      g_move_gap := (PySem.W.mg_of X G a_21)
      F_move_walked := (F_22)
      b_move_walked := (F_22.binds fun _ _ _ _ _ _ us hl => match us, hl with | [_], _ => rfl)
      g_move_walked := (PySem.W.mg_of X G a_22)
      F_l_reel := (F_23)
      b_l_reel := (F_23.binds fun _ _ _ _ _ _ us hl => match us, hl with | [_, _], _ => rfl)
      g_l_reel := (PySem.W.mg_of X G a_23)
      F_l_wind := (F_24)
      b_l_wind := (F_24.binds fun _ _ _ _ _ _ us hl => match us, hl with | [_, _], _ => rfl)
      g_l_wind := (PySem.W.mg_of X G a_24)
      F_l_one_of := (F_25)
      b_l_one_of := (F_25.binds fun _ _ _ _ _ _ us hl => match us, hl with | [_, _], _ => rfl)
      g_l_one_of := (PySem.W.mg_of X G a_25)
      F_l_trip := (F_26)
      b_l_trip := (F_26.binds fun _ _ _ _ _ _ us hl => match us, hl with | [_, _], _ => rfl)
      g_l_trip := (PySem.W.mg_of X G a_26)
      F_l_move := (F_27)
      b_l_move := (F_27.binds fun _ _ _ _ _ _ us hl => match us, hl with | [_], _ => rfl)
      g_l_move := (PySem.W.mg_of X G a_27)
      F_l_three := (F_28)
      b_l_three := (F_28.binds fun _ _ _ _ _ _ us hl => match us, hl with | [_], _ => rfl)
      g_l_three := (PySem.W.mg_of X G a_28)
      F_l_square := (F_29)
      b_l_square := (F_29.binds fun _ _ _ _ _ _ us hl => match us, hl with | [_], _ => rfl)
      g_l_square := (PySem.W.mg_of X G a_29)
      F_l_times := (F_30)
      b_l_times := (F_30.binds fun _ _ _ _ _ _ us hl => match us, hl with | [_, _], _ => rfl)
      g_l_times := (PySem.W.mg_of X G a_30)
      F_l_all := (F_31)
      b_l_all := (F_31.binds fun _ _ _ _ _ _ us hl => match us, hl with | [_], _ => rfl)
      g_l_all := (PySem.W.mg_of X G a_31)
      F_l_pair_right := (F_32)
      b_l_pair_right := (F_32.binds fun _ _ _ _ _ _ us hl => match us, hl with | [_, _], _ => rfl)
      g_l_pair_right := (PySem.W.mg_of X G a_32)
      F_l_often_right := (F_33)
      b_l_often_right := (F_33.binds fun _ _ _ _ _ _ us hl => match us, hl with | [_, _], _ => rfl)
      g_l_often_right := (PySem.W.mg_of X G a_33)
      F_l_walks_right := (F_34)
      b_l_walks_right := (F_34.binds fun _ _ _ _ _ _ us hl => match us, hl with | [_], _ => rfl)
      g_l_walks_right := (PySem.W.mg_of X G a_34)
      F_l_right := (F_35)
      b_l_right := (F_35.binds fun _ _ _ _ _ _ us hl => match us, hl with | [_], _ => rfl)
      g_l_right := (PySem.W.mg_of X G a_35)
      F_law := (F_36)
      b_law := (F_36.binds fun _ _ _ _ _ _ us hl => match us, hl with | [_], _ => rfl)
      g_law := (PySem.W.mg_of X G a_36)
      k_move_then := (kb_rev F_17 (by decide) fun _ _ _ _ _ _ ws hl => match ws, hl with | [_, _], _ => rfl)
      k_move_gap := (kb_rev F_21 (by decide) fun _ _ _ _ _ _ ws hl => match ws, hl with | [_, _], _ => rfl)
      k_move_often := (kb_rev F_19 (by decide) fun _ _ _ _ _ _ ws hl => match ws, hl with | [_, _], _ => rfl)
      k_move_undone := (kb_rev F_18 (by decide) fun _ _ _ _ _ _ ws hl => match ws, hl with | [_], _ => rfl)
      k_move_order := (kb_rev F_20 (by decide) fun _ _ _ _ _ _ ws hl => match ws, hl with | [_], _ => rfl)
      g_Move := (PySem.W.mg_of X G q_Move)
      o_Move := (⟨⟨pg_Move, hd_Move, po_Move, sa_Move⟩, ha_Move, hn_Move, ht_Move, hm_Move⟩)
      m_Move := (⟨mk_Move, in_Move, if_Move, kc_Move⟩)
      n_Move_own_east := (nf_Move_own_east)
      n_Move_own_north := (nf_Move_own_north)
      n_Move_own_area := (nf_Move_own_area)
      p_Move_east := (⟨pa_Move_east, pg_Move_east, pt_Move_east, _, pr_Move_east⟩)
      p_Move_north := (⟨pa_Move_north, pg_Move_north, pt_Move_north, _, pr_Move_north⟩)
      p_Move_area := (⟨pa_Move_area, pg_Move_area, pt_Move_area, _, pr_Move_area⟩)
      s_Move := (st_Move)
      sf_Move := (sf_Move)
      e_Move := (⟨eq_Move, ef_Move, ne_Move, hm_Move⟩)
      z_abs := (PySem.W.mg_none_of X G z_abs)
      z_all := (PySem.W.mg_none_of X G z_all)
      z_bool := (PySem.W.mg_none_of X G z_bool)
      z_divmod := (PySem.W.mg_none_of X G z_divmod)
      z_int := (PySem.W.mg_none_of X G z_int)
      z_isinstance := (PySem.W.mg_none_of X G z_isinstance)
      z_len := (PySem.W.mg_none_of X G z_len)
      z_range := (PySem.W.mg_none_of X G z_range)
      z_repr := (PySem.W.mg_none_of X G z_repr)
      z_str := (PySem.W.mg_none_of X G z_str)
      z_sum := (PySem.W.mg_none_of X G z_sum)
      z_tuple := (PySem.W.mg_none_of X G z_tuple)
      g_MOST_STEPS := (⟨_, PySem.W.mg_of X G q_MOST⟩)
      g_PLAIN := (PySem.W.mg_of X G q_PLAIN)
      t_PLAIN := (fun _ => .inr ⟨_, _, _, l_PLAIN, rfl, rfl, by rw [sizeLine_eq]; show 3 ≤ 16777216; decide, .cons ⟨_, rfl⟩ (.cons ⟨_, rfl⟩ (.cons ⟨_, rfl⟩ .nil))⟩)
      g_STEPS := (PySem.W.mg_of X G q_STEPS)
      d_STEPS := (⟨_, _, l_STEPS, kl_STEPS, lo_STEPS⟩)
      s_e := (qs_e)
      ts_e := (fun _ => .inr ⟨_, _, _, ls_e, rfl, rfl, by rw [sizeLine_eq]; show 3 ≤ 16777216; decide, .cons ⟨_, rfl⟩ (.cons ⟨_, rfl⟩ (.cons ⟨_, rfl⟩ .nil))⟩)
      s_n := (qs_n)
      ts_n := (fun _ => .inr ⟨_, _, _, ls_n, rfl, rfl, by rw [sizeLine_eq]; show 3 ≤ 16777216; decide, .cons ⟨_, rfl⟩ (.cons ⟨_, rfl⟩ (.cons ⟨_, rfl⟩ .nil))⟩)
      s_w := (qs_w)
      ts_w := (fun _ => .inr ⟨_, _, _, ls_w, rfl, rfl, by rw [sizeLine_eq]; show 3 ≤ 16777216; decide, .cons ⟨_, rfl⟩ (.cons ⟨_, rfl⟩ (.cons ⟨_, rfl⟩ .nil))⟩)
      s_s := (qs_s)
      ts_s := (fun _ => .inr ⟨_, _, _, ls_s, rfl, rfl, by rw [sizeLine_eq]; show 3 ≤ 16777216; decide, .cons ⟨_, rfl⟩ (.cons ⟨_, rfl⟩ (.cons ⟨_, rfl⟩ .nil))⟩) }
  exact ⟨_, fun s v => .of_eq rfl, fun base _ _ => ok_law T⟩
end K63
open PySem PySem.W PyProof.Rows
set_option maxRecDepth 100000 in
set_option maxHeartbeats 0 in
theorem PySem.Challenge.cw_pressworlds_k63_whole_moves_done_holds : PySem.Challenge.rw_pressworlds_k63_whole_moves_done.Holds := by
  w_on; o_law; k_head; (case hw => w_witness2)
  k_fill
  refine Own.walkG (l := PySem.Challenge.rw_pressworlds_k63_whole_moves_done) (n := 63) (k := 14) (x := "_law_script") (sp := K63.spLaw) rfl (by decide) rfl ⟨rfl, by decide, by decide⟩ (fun w h Y => PySem.W.kIn_of Y) ?F (fun K H a ns hl _ hS => ⟨_, rfl, a, ns, rfl, hS, hl, fun _ => rfl⟩)
  case F =>
    intro w mg fa h KX G hmg
    refine' K63.all_mk KX G hmg ?a_1 ?a_2 ?a_9 ?a_10 ?a_11 ?a_12 ?a_13 ?a_14 ?a_15 ?a_16 ?a_17 ?a_18 ?a_19 ?a_20 ?a_21 ?a_22 ?a_23 ?a_24 ?a_25 ?a_26 ?a_27 ?a_28 ?a_29 ?a_30 ?a_31 ?a_32 ?a_33 ?a_34 ?a_35 ?a_36 ?q_Move ?pa_Move_east ?pg_Move_east ?pt_Move_east ?pr_Move_east ?pa_Move_north ?pg_Move_north ?pt_Move_north ?pr_Move_north ?pa_Move_area ?pg_Move_area ?pt_Move_area ?pr_Move_area ?in_Move ?if_Move ?mk_Move ?kc_Move ?pg_Move ?hd_Move ?po_Move ?sa_Move ?ha_Move ?hn_Move ?ht_Move ?hm_Move ?nf_Move_own_east ?nf_Move_own_north ?nf_Move_own_area ?st_Move ?sf_Move ?eq_Move ?ef_Move ?ne_Move ?l_1 ?c_1 ?k_1 ?l_2 ?c_2 ?k_2 ?l_3 ?c_3 ?k_3 ?l_4 ?c_4 ?k_4 ?l_5 ?c_5 ?k_5 ?l_6 ?c_6 ?k_6 ?l_7 ?c_7 ?k_7 ?l_8 ?c_8 ?k_8 ?l_9 ?c_9 ?k_9 ?l_10 ?c_10 ?k_10 ?l_11 ?c_11 ?k_11 ?l_12 ?c_12 ?k_12 ?l_13 ?c_13 ?k_13 ?l_14 ?c_14 ?k_14 ?l_15 ?c_15 ?k_15 ?l_16 ?c_16 ?k_16 ?l_17 ?c_17 ?k_17 ?l_18 ?c_18 ?k_18 ?l_19 ?c_19 ?k_19 ?l_20 ?c_20 ?k_20 ?l_21 ?c_21 ?k_21 ?l_22 ?c_22 ?k_22 ?l_23 ?c_23 ?k_23 ?l_24 ?c_24 ?k_24 ?l_25 ?c_25 ?k_25 ?l_26 ?c_26 ?k_26 ?l_27 ?c_27 ?k_27 ?l_28 ?c_28 ?k_28 ?l_29 ?c_29 ?k_29 ?l_30 ?c_30 ?k_30 ?l_31 ?c_31 ?k_31 ?l_32 ?c_32 ?k_32 ?l_33 ?c_33 ?k_33 ?l_34 ?c_34 ?k_34 ?l_35 ?c_35 ?k_35 ?l_36 ?c_36 ?k_36 ?z_abs ?z_all ?z_bool ?z_divmod ?z_int ?z_isinstance ?z_len ?z_range ?z_repr ?z_str ?z_sum ?z_tuple ?q_MOST ?q_PLAIN ?l_PLAIN ?q_STEPS ?l_STEPS ?kl_STEPS ?lo_STEPS ?qs_e ?ls_e ?qs_n ?ls_n ?qs_w ?ls_w ?qs_s ?ls_s
    (case a_1 => k_is)
    (case a_2 => k_is)
    (case a_9 => k_is)
    (case a_10 => k_is)
    (case a_11 => k_is)
    (case a_12 => k_is)
    (case a_13 => k_is)
    (case a_14 => k_is)
    (case a_15 => k_is)
    (case a_16 => k_is)
    (case a_17 => k_is)
    (case a_18 => k_is)
    (case a_19 => k_is)
    (case a_20 => k_is)
    (case a_21 => k_is)
    (case a_22 => k_is)
    (case a_23 => k_is)
    (case a_24 => k_is)
    (case a_25 => k_is)
    (case a_26 => k_is)
    (case a_27 => k_is)
    (case a_28 => k_is)
    (case a_29 => k_is)
    (case a_30 => k_is)
    (case a_31 => k_is)
    (case a_32 => k_is)
    (case a_33 => k_is)
    (case a_34 => k_is)
    (case a_35 => k_is)
    (case a_36 => k_is)
    (case q_Move => k_is)
    (case pa_Move_east => k_is)
    (case pg_Move_east => k_is)
    (case pt_Move_east => k_is)
    (case pr_Move_east => k_is)
    (case pa_Move_north => k_is)
    (case pg_Move_north => k_is)
    (case pt_Move_north => k_is)
    (case pr_Move_north => k_is)
    (case pa_Move_area => k_is)
    (case pg_Move_area => k_is)
    (case pt_Move_area => k_is)
    (case pr_Move_area => k_is)
    (case in_Move => k_is)
    (case if_Move => k_is)
    (case mk_Move => k_is)
    (case kc_Move => k_is)
    (case pg_Move => k_is)
    (case hd_Move => k_is)
    (case po_Move => k_is)
    (case sa_Move => k_is)
    (case ha_Move => k_is)
    (case hn_Move => k_is)
    (case ht_Move => k_is)
    (case hm_Move => k_is)
    (case nf_Move_own_east => k_is)
    (case nf_Move_own_north => k_is)
    (case nf_Move_own_area => k_is)
    (case st_Move => k_is)
    (case sf_Move => k_is)
    (case eq_Move => k_is)
    (case ef_Move => k_is)
    (case ne_Move => k_is)
    (case l_1 => k_is)
    (case c_1 => k_is)
    (case k_1 => k_is)
    (case l_2 => k_is)
    (case c_2 => k_is)
    (case k_2 => k_is)
    (case l_3 => k_is)
    (case c_3 => k_is)
    (case k_3 => k_is)
    (case l_4 => k_is)
    (case c_4 => k_is)
    (case k_4 => k_is)
    (case l_5 => k_is)
    (case c_5 => k_is)
    (case k_5 => k_is)
    (case l_6 => k_is)
    (case c_6 => k_is)
    (case k_6 => k_is)
    (case l_7 => k_is)
    (case c_7 => k_is)
    (case k_7 => k_is)
    (case l_8 => k_is)
    (case c_8 => k_is)
    (case k_8 => k_is)
    (case l_9 => k_is)
    (case c_9 => k_is)
    (case k_9 => k_is)
    (case l_10 => k_is)
    (case c_10 => k_is)
    (case k_10 => k_is)
    (case l_11 => k_is)
    (case c_11 => k_is)
    (case k_11 => k_is)
    (case l_12 => k_is)
    (case c_12 => k_is)
    (case k_12 => k_is)
    (case l_13 => k_is)
    (case c_13 => k_is)
    (case k_13 => k_is)
    (case l_14 => k_is)
    (case c_14 => k_is)
    (case k_14 => k_is)
    (case l_15 => k_is)
    (case c_15 => k_is)
    (case k_15 => k_is)
    (case l_16 => k_is)
    (case c_16 => k_is)
    (case k_16 => k_is)
    (case l_17 => k_is)
    (case c_17 => k_is)
    (case k_17 => k_is)
    (case l_18 => k_is)
    (case c_18 => k_is)
    (case k_18 => k_is)
    (case l_19 => k_is)
    (case c_19 => k_is)
    (case k_19 => k_is)
    (case l_20 => k_is)
    (case c_20 => k_is)
    (case k_20 => k_is)
    (case l_21 => k_is)
    (case c_21 => k_is)
    (case k_21 => k_is)
    (case l_22 => k_is)
    (case c_22 => k_is)
    (case k_22 => k_is)
    (case l_23 => k_is)
    (case c_23 => k_is)
    (case k_23 => k_is)
    (case l_24 => k_is)
    (case c_24 => k_is)
    (case k_24 => k_is)
    (case l_25 => k_is)
    (case c_25 => k_is)
    (case k_25 => k_is)
    (case l_26 => k_is)
    (case c_26 => k_is)
    (case k_26 => k_is)
    (case l_27 => k_is)
    (case c_27 => k_is)
    (case k_27 => k_is)
    (case l_28 => k_is)
    (case c_28 => k_is)
    (case k_28 => k_is)
    (case l_29 => k_is)
    (case c_29 => k_is)
    (case k_29 => k_is)
    (case l_30 => k_is)
    (case c_30 => k_is)
    (case k_30 => k_is)
    (case l_31 => k_is)
    (case c_31 => k_is)
    (case k_31 => k_is)
    (case l_32 => k_is)
    (case c_32 => k_is)
    (case k_32 => k_is)
    (case l_33 => k_is)
    (case c_33 => k_is)
    (case k_33 => k_is)
    (case l_34 => k_is)
    (case c_34 => k_is)
    (case k_34 => k_is)
    (case l_35 => k_is)
    (case c_35 => k_is)
    (case k_35 => k_is)
    (case l_36 => k_is)
    (case c_36 => k_is)
    (case k_36 => k_is)
    (case z_abs => k_is)
    (case z_all => k_is)
    (case z_bool => k_is)
    (case z_divmod => k_is)
    (case z_int => k_is)
    (case z_isinstance => k_is)
    (case z_len => k_is)
    (case z_range => k_is)
    (case z_repr => k_is)
    (case z_str => k_is)
    (case z_sum => k_is)
    (case z_tuple => k_is)
    (case q_MOST => k_is)
    (case q_PLAIN => k_is)
    (case l_PLAIN => k_is)
    (case q_STEPS => k_is)
    (case l_STEPS => k_is)
    (case kl_STEPS => exact ⟨⟨_, _, rfl, rfl⟩, ⟨_, _, rfl, rfl⟩, ⟨_, _, rfl, rfl⟩, ⟨_, _, rfl, rfl⟩, trivial⟩)
    (case lo_STEPS => rfl)
    (case qs_e => k_is)
    (case ls_e => k_is)
    (case qs_n => k_is)
    (case ls_n => k_is)
    (case qs_w => k_is)
    (case ls_w => k_is)
    (case qs_s => k_is)
    (case ls_s => k_is)

