import PyProof.Rows.All
import Wide.All
import OpenK.AllK
import Wide.FinOn
import PyProof.InstNe
import HandS.ForMost
import HandS.Defaults
import HandS.Property
import HandS.ClsMeth
import HandS.Star
import HandS.More
import HandS.MakeKwOnly
import HandS.IsInst
import HandS.Deep
import HandS.DictTup
import HandS.TupSets
import HandS.GenList
import HandS.GenCall
import KE.KDictDisplayH
import HandS.Words
import HandS.Codes
import HandS.Sort
import PyProof.Rows.SortKeyStr
import HandS.Conv
import HandS.HeadNt
import HandS.FltErr
import HandS.LawCells
import HandS.Head0
import HandS.Head1
import HandS.Head2
import HandS.HeadEnd
import HandS.HeadHook1
import HandS.HeadHook2
import HandS.Style
import HandS.TupLen
import PySem.Challenge.RW_carpets_k59_whole_parts_repainted_one_by
set_option Elab.async false
set_option linter.all false
set_option maxRecDepth 100000
set_option maxHeartbeats 2000000
/-! R1: rules by positional promises (FnR), own special methods, a staticmethod, a classmethod without arguments, a local class called, attribute targets. -/
namespace Cp
open PySem PySem.Spec PyProof.Rows L2

section
variable {X : Cx} {k : Nat} {f C g p : Addr} {sp : Sp} {x m : Str} {pn pos apos : Pos} {e o : Expr} {es : List Expr} {ta te : TE} {t : TA}

/-! ### calls -/
def tCallR (sp : Sp) (t : TA) : TE := fun σ H Q => t σ H fun vs H1 => sp vs H1 Q E0
theorem pe_callR (F : FnR X.prog X.w X.K X.mg X.base CX0 k f sp) (hr : Room k X.A) (hg : Gl X x) (hm : X.mg x = some (.ref f)) (hk : PySem.W.keepIn X.K (.ref f) = true) (ha : PA X (e :: es) t)
    (hdb : (x == ("__debug__" : Str)) = false := by decide) (he : starEach (e :: es) X.env = (false, eval e X.env) :: starEach es X.env := by rfl) (hpl : (backTo pos (starEach es X.env)).any (·.1) = false := by rfl) :
    PE X (.Call (.Name x pn) (e :: es) [] pos) (tCallR sp t) := by
  refine ⟨fun pins s σ H Q I h => ?_⟩
  refine wpAny_Call_Name_kw (ld_glob I hg hm ?_ hdb)
  refine PySem.W.callWith_K (h₀ := X.base) I.ok.mod.kin hk (thn (ha.run pos pins s σ H _ I h) fun us s1 ⟨vs, H1, I1, r, q⟩ => ⟨I1.kIn, ?_⟩) he hpl
  exact wpAny_call (run_fnR F hr pass0 I1 r q)
theorem pe_callR0 (F : FnR X.prog X.w X.K X.mg X.base CX0 k f sp) (hr : Room k X.A) (hg : Gl X x) (hm : X.mg x = some (.ref f)) (hk : PySem.W.keepIn X.K (.ref f) = true)
    (hdb : (x == ("__debug__" : Str)) = false := by decide) : PE X (.Call (.Name x pn) [] [] pos) (tCallR sp tNil) := by
  refine ⟨fun pins s σ H Q I h => ?_⟩
  refine wpAny_Call_Name_kw (ld_glob I hg hm ?_ hdb)
  exact PySem.W.callWith_K0 I.kIn hk (wpAny_call (run_fnR (us := []) F hr pass0 I .nil h))
/-- o.m() -/
theorem pe_methR0 {pl : Sem Bool} (he : PE X o ta) (c : Cls X.K C) (hm : Meth X.K C m f) (F : FnR X.prog X.w X.K X.mg X.base CX0 k f sp) (hr : Room k X.A)
    (ht : eval (.Call (.Attribute o m apos) [] [] pos) X.env = (do
      let ov ← eval o X.env
      standAt apos.atName
      let (f, first) ← holding [ov] (getMethod ov m pl)
      callWith pos f first (backTo pos (starEach [] X.env)) (backToKw pos (keywordEach [] X.env))) := by rfl) :
    PE X (.Call (.Attribute o m apos) [] [] pos) (tMethR C m sp E0 ta tNil) := by
  refine ⟨fun pins s σ H Q I h => ?_⟩
  refine PySem.W.methodCall_KW (pl := pl) (thn (he.run pins s σ H _ I h) fun u s1 ⟨x, H1, I1, rx, a, dx, fs, ex, ea, l, q⟩ => ?_) ht
  subst ex
  obtain rfl : u = Value.ref a := rx
  refine getmeth_ok I1 ea c hm l ?_
  exact PySem.W.callWith_K0 (first := [.ref a]) I1.kIn hm.kp (wpAny_call (run_fnR (us := [Value.ref a]) (vs := [V.ref a]) F hr pass0 I1 (.cons rfl .nil) q))

/-! ### a property -/
def tPropR (C : Addr) (sp : Sp) (ta : TE) : TE := fun σ H Q => ta σ H fun x H1 => ∃ a dx fs, x = .ref a ∧ H1 a = some (.ins C dx fs) ∧ sp [.ref a] H1 Q E0
theorem pe_propR {f : Str} (he : PE X e ta) (c : Cls X.K C) (hp : PropOf X.K C f p g) (F : FnR X.prog X.w X.K X.mg X.base CX0 k g sp) (hr : Room (k + 1) X.A)
    (hab : attributeBase e f X.env (eval e X.env) = eval e X.env := by rfl) : PE X (.Attribute e f pos) (tPropR C sp ta) := by
  refine ⟨fun pins s σ H Q I h => ?_⟩
  refine attr_of hab (thn (he.run pins s σ H _ I h) fun u s1 ⟨x, H1, I1, rx, a, dx, fs, ex, ea, h⟩ => ?_)
  subst ex
  obtain rfl : u = Value.ref a := rx
  obtain ⟨mA, O, _, _, _, _⟩ := ins_get I1.hok ea
  obtain ⟨od, J, _⟩ := O.look
  obtain ⟨rest, hrec⟩ := hp.rec_
  have I2 := I1.tok (s1.toks + 1)
  have hc : (PySem.W.clsIn X.K C).isSome = true := by
    obtain ⟨cd, hc, _⟩ := PySem.W.any_some c.hd
    rw [hc]
    rfl
  refine PySem.W.get_bind I1.kIn J (PySem.W.plainGet_of (c.get f)).1 (PySem.W.findObj_data hc hp.at_ hp.get hp.tak) (PySem.W.plainGet_of (c.get f)).2 (wpAny_call (PySem.W.prop_get (s := { s1 with toks := s1.toks + 1 }) I1.kIn hrec ?_))
  refine codeAny_mono (F X.A.in1 X.stack { s1 with toks := s1.toks + 1 } H1 [.ref a] [.ref a] Q E0 hr.in1 I2.env0.in1 (.cons rfl .nil) h) fun r s' hq => ?_
  cases r with
  | error er => exact hq.elim
  | ok fl =>
    cases fl with
    | ret u =>
      obtain ⟨v, H', I3, rv, q3⟩ := I2.after hq
      show wpAny _ _ (handedOut u) _ _ _
      rw [PySem.W.handedOut_of (handed_of rv)]
      exact wpAny_pure ⟨v, H', I3, rv, q3⟩
    | next => exact False.elim hq
    | brk => exact False.elim hq
    | cont => exact False.elim hq

/-! ### the callee below the running body, one built-in deeper -/
theorem run_in1 {pins : List (Addr × Obj)} {σ : L2.St} {H : Hp} {s : Shared} {Q : VK} {us : List Value} {vs : List V} (F : FnR X.prog X.w X.K X.mg X.base CX0 k f sp) (hr : Room (k + 1) X.A) (I : Inv X pins σ H s) (r : Vals vs us) (h : sp vs H Q E0) :
    codeAny (model X.prog X.w) X.A.in1 (.call (.ref f) ⟨us, []⟩) (fun r s' => match r with | .ok (.ret v) => EP X pins σ Q v s' | .ok _ => False | .error e => X.xe e s') s := by
  refine codeAny_mono (F X.A.in1 X.stack s H us vs Q E0 hr.in1 I.env0.in1 r h) fun r s' hq => ?_
  cases r with
  | error e => exact (pass0 (X := X) pins σ H s e s' I hq)
  | ok fl =>
    cases fl with
    | ret u => exact I.after hq
    | next => exact False.elim hq
    | brk => exact False.elim hq
    | cont => exact False.elim hq

/-! ### len(o), o[i], v in o by own methods -/
structure Spc (K : PySem.W.Frag) (C : Addr) (m : Str) (f : Addr) : Prop where
  at_ : PySem.W.findIn K (.ref C) m = some (some (.ref f))
  fn : PySem.W.isFn K (.ref f) = true
def rLenO (C : Addr) (sp : Sp) : List V → Hp → VK → Prop := fun xs H Q => ∃ a dx fs, xs = [.ref a] ∧ H a = some (.ins C dx fs) ∧ sp [.ref a] H (fun v H' => ∃ n : Int, v = .int n ∧ 0 ≤ n ∧ n < 2 ^ 63 ∧ Q (.int n) H') E0
theorem call_lenO (M : Spc X.K C "__len__" f) (F : FnR X.prog X.w X.K X.mg X.base CX0 k f sp) (hr : Room (k + 1) X.A) : CallR X (.builtin "len") (rLenO C sp) := by
  intro pins s σ H xs us Q I r h
  obtain ⟨a, dx, fs, rfl, ea, q⟩ := h
  obtain ⟨u, rfl, ru⟩ := r.one
  obtain rfl : u = Value.ref a := ru
  obtain ⟨mA, O, _, _, _, _⟩ := ins_get I.hok ea
  obtain ⟨od, J, _⟩ := O.look
  obtain ⟨m, hF⟩ := I.fr
  refine PySem.W.len_K hF I.ok.mod.kin J M.at_ M.fn ?_
  refine wpAny_mono (wpAny_call (run_in1 (us := [Value.ref a]) (vs := [V.ref a]) F hr I (.cons rfl .nil) q)) (fun u s' z => ?_) fun _ _ z => z
  obtain ⟨v, H', I', rv, n, en, h0, h1, qn⟩ := z
  subst en
  obtain ⟨t, rfl⟩ := rv
  exact ⟨⟨h0, h1⟩, .int n, H', I'.tok _, ⟨_, rfl⟩, qn⟩
/-- truth by own __contains__ -/
def rInO (C : Addr) (sp : Sp) : R2 := fun x y H Q => ∃ a dx fs, y = .ref a ∧ H a = some (.ins C dx fs) ∧ sp [.ref a, x] H (fun v H' => ∃ b, v = .bl b ∧ Q (.bl b) H') E0
theorem op_inO (M : Spc X.K C "__contains__" f) (F : FnR X.prog X.w X.K X.mg X.base CX0 k f sp) (hr : Room k X.A) : OpR X (compareOp .In) (rInO C sp) := by
  intro pins s σ H x y u w Q I rx ry h
  obtain ⟨a, dx, fs, rfl, ea, q⟩ := h
  obtain rfl : w = Value.ref a := ry
  obtain ⟨mA, O, _, _, _, _⟩ := ins_get I.hok ea
  obtain ⟨od, J, _⟩ := O.look
  obtain ⟨m, hF⟩ := I.fr
  refine PySem.W.in_K hF I.ok.mod.kin J M.at_ M.fn ?_
  refine wpAny_mono (wpAny_call (run_fnR (us := [Value.ref a, u]) (vs := [V.ref a, x]) F hr pass0 I (.cons rfl (.cons rx .nil)) q)) (fun u s' z => ?_) fun _ _ z => z
  obtain ⟨v, H', I', rv, b, eb, qb⟩ := z
  subst eb
  cases rv
  exact wpAny_truthy_bool ⟨.bl b, H', I', rfl, qb⟩
/-- == by own __eq__, both of one class -/
def rEqO (C : Addr) (sp : Sp) : R2 := fun x y H Q => ∃ a dx fs b dy gs, x = .ref a ∧ y = .ref b ∧ H a = some (.ins C dx fs) ∧ H b = some (.ins C dy gs) ∧ sp [x, y] H (fun v H' => ∃ c, v = .bl c ∧ Q (.bl c) H') E0
theorem op_eqO (M : Spc X.K C "__eq__" f) (F : FnR X.prog X.w X.K X.mg X.base CX0 k f sp) (hr : Room k X.A) : OpR X (compareOp .Eq) (rEqO C sp) := by
  intro pins s σ H x y u w Q I rx ry h
  obtain ⟨a, dx, fs, b, dy, gs, rfl, rfl, ea, eb, q⟩ := h
  obtain rfl : u = Value.ref a := rx
  obtain rfl : w = Value.ref b := ry
  obtain ⟨mA, O, _, _, _, _⟩ := ins_get I.hok ea
  obtain ⟨od, J, _⟩ := O.look
  obtain ⟨mB, O2, _, _, _, _⟩ := ins_get I.hok eb
  obtain ⟨od2, J2, _⟩ := O2.look
  obtain ⟨m, hF⟩ := I.fr
  show wpAny (model X.prog X.w) X.A (richCompare .Eq (.ref a) (.ref b)) _ _ s
  refine PySem.W.cmp_K (op := .Eq) (tb := .ref C) hr.units0 hF I.ok.mod.kin J J2.type (by simp [PySem.W.notFirst]) M.at_ M.fn ?_
  refine wpAny_mono (wpAny_call (run_fnR (us := [Value.ref a, Value.ref b]) (vs := [V.ref a, V.ref b]) F hr pass0 I (.cons rfl (.cons rfl .nil)) q)) (fun u s' z => ?_) fun _ _ z => z
  obtain ⟨v, H', I', rv, c, ec, qc⟩ := z
  subst ec
  cases rv
  exact ⟨.bl c, H', I', rfl, qc⟩
/-- o[i] by own __getitem__ -/
def tSubO (C : Addr) (sp : Sp) (ta tb : TE) : TE := fun σ H Q => ta σ H fun x H1 => tb σ H1 fun y H2 => ∃ a dx fs, x = .ref a ∧ H2 a = some (.ins C dx fs) ∧ sp [x, y] H2 Q E0
theorem pe_subO {b : Expr} {tb : TE} (M : Spc X.K C "__getitem__" f) (hk : PySem.W.fnIn X.K f = true) (F : FnR X.prog X.w X.K X.mg X.base CX0 k f sp) (hr : Room (k + 1) X.A) (ha : PE X e ta) (hb : PE X b tb)
    (hsl : ∀ v i, subscripted b true v i = runValue (.builtin "lifetime.subscript" ⟨[v, i], []⟩) := by intro _ _; rfl) : PE X (.Subscript e b pos) (tSubO C sp ta tb) := by
  refine ⟨fun pins s σ H Q I h => ?_⟩
  refine Subscript_ (binT ha hb I h fun u v s2 x y H2 I2 rx ry q => ?_)
  obtain ⟨a, dx, fs, rfl, ea, q⟩ := q
  obtain rfl : u = Value.ref a := rx
  obtain ⟨mA, O, _, _, _, _⟩ := ins_get I2.hok ea
  obtain ⟨od, J, _⟩ := O.look
  obtain ⟨m, hF⟩ := I2.fr
  exact PySem.W.sub_K hF I2.ok.mod.kin J M.at_ hk M.fn (wpAny_call (run_in1 (us := [Value.ref a, v]) (vs := [V.ref a, y]) F hr I2 (.cons rfl (.cons ry .nil)) q)) (hsl _ _)
/-- C.m(e, ..), m a staticmethod -/
structure SMet (K : PySem.W.Frag) (C : Addr) (mc : Value) (m : Str) (p g : Addr) : Prop where
  at_ : PySem.W.findCls K (.ref C) mc m = some (.get (.builtin "staticmethod.__get__") (.ref p) .none (.ref C))
  rc : ∃ rest, PySem.W.recIn K p "staticmethod" = some (.ref g :: rest)
  kp : PySem.W.keepIn K (.ref g) = true
def tSMeth (C : Addr) (sp : Sp) (ta : TE) (t : TA) : TE := fun σ H Q => ta σ H fun x H1 => x = .ref C ∧ t σ H1 fun vs H2 => sp vs H2 Q E0
theorem pe_smeth {mc : Value} {pl : Sem Bool} (he : PE X o ta) (r : ClX.CRead X.K C mc) (c : SMet X.K C mc m p g) (F : FnR X.prog X.w X.K X.mg X.base CX0 k g sp) (hr : Room k X.A) (ha : PA X (e :: es) t)
    (hst : starEach (e :: es) X.env = (false, eval e X.env) :: starEach es X.env := by rfl) (hpl : (backTo pos (starEach es X.env)).any (·.1) = false := by rfl)
    (ht : eval (.Call (.Attribute o m apos) (e :: es) [] pos) X.env = (do
      let ov ← eval o X.env
      standAt apos.atName
      let (f, first) ← holding [ov] (getMethod ov m pl)
      callWith pos f first (backTo pos (starEach (e :: es) X.env)) (backToKw pos (keywordEach [] X.env))) := by rfl) :
    PE X (.Call (.Attribute o m apos) (e :: es) [] pos) (tSMeth C sp ta t) := by
  refine ⟨fun pins s σ H Q I h => ?_⟩
  refine PySem.W.methodCall_KW (pl := pl) (thn (he.run pins s σ H _ I h) fun u s1 ⟨x, H1, I1, rx, ex, q⟩ => ?_) ht
  subst ex
  obtain rfl : u = Value.ref C := rx
  obtain ⟨rest, hp⟩ := c.rc
  refine PySem.W.method_cls I1.kIn r.ga (PySem.W.cls_bind I1.kIn r.rd c.at_ (wpAny_call (PySem.W.sm_get (s := { s1 with toks := s1.toks + 1 }) I1.kIn hp (PySem.W.handed_on rfl ?_))))
  refine PySem.W.callWith_K (first := []) (h₀ := X.base) I.ok.mod.kin c.kp (thn (ha.run pos pins _ σ H1 _ (I1.tok _) q) fun us s2 ⟨vs, H2, I2, r, q2⟩ => ⟨I2.kIn, ?_⟩) hst hpl
  exact wpAny_call (run_fnR (us := us) (vs := vs) F hr pass0 I2 r q2)
/-- C.m(), m a classmethod -/
def tCMeth0 (C : Addr) (sp : Sp) (ta : TE) : TE := fun σ H Q => ta σ H fun x H1 => x = .ref C ∧ sp [.ref C] H1 Q E0
theorem pe_cmeth0 {mc : Value} {pl : Sem Bool} (he : PE X o ta) (r : ClX.CRead X.K C mc) (c : ClX.CMet X.K C mc m p g) (F : FnR X.prog X.w X.K X.mg X.base CX0 k g sp) (hr : Room k X.A)
    (ht : eval (.Call (.Attribute o m apos) [] [] pos) X.env = (do
      let ov ← eval o X.env
      standAt apos.atName
      let (f, first) ← holding [ov] (getMethod ov m pl)
      callWith pos f first (backTo pos (starEach [] X.env)) (backToKw pos (keywordEach [] X.env))) := by rfl) :
    PE X (.Call (.Attribute o m apos) [] [] pos) (tCMeth0 C sp ta) := by
  refine ⟨fun pins s σ H Q I h => ?_⟩
  refine PySem.W.methodCall_KW (pl := pl) (thn (he.run pins s σ H _ I h) fun u s1 ⟨x, H1, I1, rx, ex, q⟩ => ?_) ht
  subst ex
  obtain rfl : u = Value.ref C := rx
  refine ClX.getmethcm_ok I1 r c fun s2 I2 => ?_
  exact PySem.W.callWith_M0 (first := []) (self := .ref C) ⟨ClX.pin_at I2, I2.kIn⟩ c.fi (ClX.run_cm (us := []) (vs := []) F hr pass0 I2 .nil q)
/-- x(e, ..), x a local name that holds the class at C -/
def tMakeV (i : Nat) (C : Addr) (sp : Sp) (t : TA) : TE := fun σ H Q => σ[i]? = some (some (.ref C)) ∧ StX.tMakeR C sp E0 t σ H Q
theorem pe_makeV {i : Nat} (M : Mk X.K C f) (F : FnR X.prog X.w X.K X.mg X.base CX0 k f sp) (hr : Room (k + 1) X.A) (hN : X.N[i]? = some x) (hv : Vis X.env.scope x) (ha : PA X (e :: es) t)
    (hd : (x == ("__debug__" : Str)) = false := by decide) (hcd : (x == ("__classdict__" : Str)) = false := by decide)
    (he : starEach (e :: es) X.env = (false, eval e X.env) :: starEach es X.env := by rfl) (hpl : (backTo pos (starEach es X.env)).any (·.1) = false := by rfl) : PE X (.Call (.Name x pn) (e :: es) [] pos) (tMakeV i C sp t) := by
  refine ⟨fun pins s σ H Q I h => ?_⟩
  obtain ⟨h0, h⟩ := h
  refine wpAny_Call_Name_kw (thn ((pe_var (pos := pn) hN hv hd hcd).run pins s σ H (fun v H1 => v = .ref C ∧ H1 = H) I ⟨.ref C, h0, rfl, rfl⟩) fun u s1 ⟨v, H1, I1, rv, ev, eH⟩ => ?_)
  subst ev
  subst eH
  obtain rfl : u = Value.ref C := rv
  refine PySem.W.callWith_K (h₀ := X.base) I.ok.mod.kin M.kp (thn (ha.run pos pins s1 σ H1 _ I1 h) fun us s2 ⟨vs, H2, I2, r, q⟩ => ⟨I2.kIn, ?_⟩) he hpl
  exact StX.run_makeR M F hr pass0 I2 r q
/-- o.f as a target -/
def gAttr (K : PySem.W.Frag) (ta : TE) (f : Str) : TG := fun v σ H Q => ta σ H fun x H1 => ∃ a C dx fs, x = .ref a ∧ H1 a = some (.ins C dx fs) ∧ Cls K C ∧ NoAttr K C f ∧ fs.length < 1000 ∧ Q σ (upd H1 a (.ins C dx (putF f v fs)))
theorem pg_attr {f : Str} (ho : PE X o ta) : PG X (.Attribute o f pos) (gAttr X.K ta f) := by
  refine ⟨fun pins s σ H v u Q I r h => ?_⟩
  rw [PySem.assign_Attribute]
  refine wpAny_bind (wpAny_holding (thn (ho.run pins s σ H _ I h) fun ov s1 ⟨x, H1, I1, rx, a, C, dx, fs, ex, ea, c, n, l, q⟩ => ?_))
  subst ex
  obtain rfl : ov = Value.ref a := rx
  refine wpAny_bind (wpAny_standAt (wpAny_bind (wpAny_holding (setattr_ok I1 ea c n l r fun s2 I2 => ?_))))
  exact wpAny_release ⟨σ, _, I2, q⟩
/-- a text among the module's names -/
theorem pe_gstr {z : Str} (hg : Gl X x) (h : ∃ t, X.mg x = some (.str z t)) (hd : (x == ("__debug__" : Str)) = false := by decide) : PE X (.Name x pos) (tC (.str z)) := by
  obtain ⟨t, h⟩ := h
  exact pe_glob hg h ⟨t, rfl⟩ hd
theorem pe_gint {i : Int} (hg : Gl X x) (h : ∃ t, X.mg x = some (.int i t)) (hd : (x == ("__debug__" : Str)) = false := by decide) : PE X (.Name x pos) (tC (.int i)) := by
  obtain ⟨t, h⟩ := h
  exact pe_glob hg h ⟨t, rfl⟩ hd
end

/-! ### o != p by object.__ne__ over the own __eq__ -/
theorem slot_one : Slot "object" "__ne__" "object.__ne__" :=
  Slot.of (T := "object") (name := "__ne__") (owner := "object") (n := "__ne__") (by rw [typeLookup_type, builtinLookup_eq_fast]; kernel_rfl) (by decide +kernel) (by decide +kernel) (by decide +kernel)
    (.inl (by decide +kernel)) (by rw [isSubtype_type]; kernel_rfl)
section
variable {X : Cx} {k : Nat} {f C : Addr} {sp : Sp}
def rNeO (C : Addr) (sp : Sp) : R2 := fun x y H Q => ∃ a dx fs b dy gs, x = .ref a ∧ y = .ref b ∧ H a = some (.ins C dx fs) ∧ H b = some (.ins C dy gs) ∧ sp [x, y] H (fun v H' => ∃ c, v = .bl c ∧ Q (.bl (!c)) H') E0
theorem op_neO (M : Spc X.K C "__eq__" f) (hne : PySem.W.findIn X.K (.ref C) "__ne__" = some (some (.builtin "object.__ne__"))) (hob : PySem.W.mroIn X.K C (.type "object") = some true) (F : FnR X.prog X.w X.K X.mg X.base CX0 k f sp) (hr : Room (k + 1) X.A) :
    OpR X (compareOp .NotEq) (rNeO C sp) := by
  intro pins s σ H x y u w Q I rx ry h
  obtain ⟨a, dx, fs, b, dy, gs, rfl, rfl, ea, eb, q⟩ := h
  obtain rfl : u = Value.ref a := rx
  obtain rfl : w = Value.ref b := ry
  obtain ⟨mA, O, _, _, _, _⟩ := ins_get I.hok ea
  obtain ⟨od, J, _⟩ := O.look
  obtain ⟨mB, O2, _, _, _, _⟩ := ins_get I.hok eb
  obtain ⟨od2, J2, _⟩ := O2.look
  have hu := hr.units
  have KX := I.kIn
  have inst : PySem.W.Looks (model X.prog X.w) s.heap (isInstance (.ref a) (.type "object")) true := J.type.andThen (PySem.W.looks_mroIn KX hob)
  have body : wpAny (model X.prog X.w) X.A (call (.builtin "object.__ne__") [.ref a, .ref b]) (fun v s' => ∃ c, v = .bool c ∧ EP X pins σ Q (.bool c) s') X.xe s := by
    refine wpAny_call (codeAny_call_builtin slot_one.plain PySem.F.cmpEntry_ne (PySem.W.check_slot PySem.F.cmpKind_ne PySem.F.cmpSplit_ne inst (PySem.F.cmpArgs_ne _ _) ?_))
    unfold Builtin.«object.__ne__»
    refine wpAny_bind (m := slotArgs "__ne__" 1 _) (wpAny_of_eq (a := (Value.ref a, [Value.ref b])) rfl ?_)
    dsimp only
    refine wpAny_bind (wpAny_cRoomFor (by show X.A.units + 1 < cLine; omega) ?_)
    refine wpAny_bind (m := callSpecialIfBound? (.ref a) (Str.ofString "__eq__") [.ref b]) (PySem.W.ifBound_K KX J M.at_ M.fn ?_)
    refine wpAny_mono (wpAny_call (run_in1 (us := [Value.ref a, Value.ref b]) (vs := [V.ref a, V.ref b]) F hr I (.cons rfl (.cons rfl .nil)) q)) (fun v s' z => ?_) fun _ _ z => z
    obtain ⟨z, H', I', rv, c, ec, qc⟩ := z
    subst ec
    cases rv
    refine wpAny_bind (wpAny_truthy_bool (wpAny_pure ?_))
    exact ⟨_, rfl, V.bl (!c), H', I', rfl, qc⟩
  have tr : wpAny (model X.prog X.w) X.A (tryCompare (.ref a) "__ne__" (.ref b)) (fun r s' => ∃ c, r = some (.bool c) ∧ EP X pins σ Q (.bool c) s') X.xe s := by
    unfold tryCompare
    refine wpAny_bind ?_
    simp only [callSpecialIfBound?, bindSpecialIfBound?]
    refine wpAny_holding (wpAny_bind (wpAny_bind (wpAny_bind (J.type.here ((PySem.W.looks_findIn KX hne).here ?_)))))
    refine wpAny_bind (wpAny_askSetting (wpAny_ite ?_))
    have fin : wpAny (model X.prog X.w) X.A (call (.builtin "object.__ne__") ([.ref a] ++ [.ref b]) >>= fun v => pure (some v)) (fun r s' => wpAny (model X.prog X.w) X.A (match r with | some .notImplemented | none => pure none | some v => pure (some v)) (fun r s' => ∃ c, r = some (.bool c) ∧ EP X pins σ Q (.bool c) s') X.xe s') X.xe s :=
      wpAny_bind (wpAny_mono body (fun v s' ⟨c, e, h⟩ => wpAny_pure (by subst e; exact wpAny_pure ⟨c, rfl, h⟩)) fun _ _ h' => h')
    split
    · exact wpAny_bind (wpAny_of_eq (slot_one.bind _) (wpAny_pure (by exact fin)))
    · exact wpAny_tryCatch (wpAny_bind (wpAny_of_eq (slot_one.bind _) (wpAny_pure (by exact fin))))
  show wpAny (model X.prog X.w) X.A (richCompare .NotEq (.ref a) (.ref b)) _ _ s
  unfold richCompare
  simp only [oneThing_ref]
  refine wpAny_holding (wpAny_bind (wpAny_cRoomFor hr.units0 ?_))
  refine wpAny_bind (J.type.here (wpAny_bind (J2.type.here ?_)))
  rw [show (Value.ref C != Value.ref C) = false from by simp]
  simp only [Bool.false_eq_true, if_false]
  refine wpAny_bind (wpAny_pure ?_)
  simp only [Bool.false_eq_true, if_false]
  refine wpAny_bind (wpAny_mono tr (fun r s' z => ?_) fun _ _ e => e)
  obtain ⟨c, rfl, hq⟩ := z
  exact wpAny_pure hq
end
end Cp
set_option Elab.async false
set_option linter.all false
set_option maxRecDepth 100000
set_option maxHeartbeats 2000000
/-! G1: what a run does not do to generators that sleep: the run from a state where every sleeping generator is stuck is the run itself. -/
namespace GK
open PySem
open Sem (wp)

def kill : GenState → GenState
  | .suspended _ l c p fs cl => .suspended (fun _ => .unsupported "") l c p fs cl
  | x => x
def sleeps : GenState → Bool
  | .suspended .. => true
  | _ => false
def noG : Frame → Bool
  | .gen .. => false
  | _ => true
def clean : GenState → Prop
  | .suspended _ _ _ _ fs _ => fs.all noG = true
  | _ => True
def endClean : End → Prop
  | .susp _ _ _ _ _ _ fs => fs.all noG = true
  | _ => True
theorem kill_seen (x : GenState) : (kill x).seen = x.seen := by cases x <;> rfl
theorem endClean.state {e : End} (h : endClean e) : clean e.genState := by
  cases e with
  | ret r => trivial
  | susp => exact h

def At (D : Nat → Option GenState) (G K : Array GenState) (i : Nat) : Prop := match D i with
  | some x => G[i]? = some x ∧ K[i]? = some (kill x) ∧ sleeps x = true
  | none => G[i]? = K[i]? ∧ ∀ x, K[i]? = some x → clean x
structure Rel (D : Nat → Option GenState) (G K : Array GenState) : Prop where
  size : G.size = K.size
  at_ : ∀ i, At D G K i
section
variable {D : Nat → Option GenState} {G K : Array GenState}
theorem Rel.none_of (r : Rel D G K) {i : Nat} (h : G.size ≤ i) : D i = none := by
  cases e : D i with
  | none => rfl
  | some x =>
    have a := r.at_ i
    unfold At at a
    rw [e] at a
    have := (Array.getElem?_eq_some_iff.mp a.1).1
    omega
theorem Rel.push (r : Rel D G K) {x : GenState} (c : clean x) : Rel D (G.push x) (K.push x) := by
  refine ⟨by rw [Array.size_push, Array.size_push, r.size], fun i => ?_⟩
  have a := r.at_ i
  unfold At at a ⊢
  cases e : D i with
  | some y =>
    rw [e] at a
    have h1 := (Array.getElem?_eq_some_iff.mp a.1).1
    have h2 := (Array.getElem?_eq_some_iff.mp a.2.1).1
    dsimp only at a ⊢
    rw [Array.getElem?_push_lt h1, Array.getElem?_push_lt h2]
    exact ⟨by rw [← a.1, Array.getElem?_eq_getElem h1], by rw [← a.2.1, Array.getElem?_eq_getElem h2], a.2.2⟩
  | none =>
    rw [e] at a
    dsimp only at a ⊢
    by_cases hi : i = K.size
    · have h1 : (G.push x)[i]? = some x := by rw [hi, ← r.size]; exact Array.getElem?_push_size
      have h2 : (K.push x)[i]? = some x := by rw [hi]; exact Array.getElem?_push_size
      rw [h1, h2]
      exact ⟨rfl, fun y hy => by cases hy; exact c⟩
    · have h1 : (G.push x)[i]? = G[i]? := by rw [Array.getElem?_push, if_neg (by rw [r.size]; exact hi)]
      have h2 : (K.push x)[i]? = K[i]? := by rw [Array.getElem?_push, if_neg hi]
      rw [h1, h2]
      exact a
theorem Rel.set (r : Rel D G K) {g : Nat} {x : GenState} (hg : D g = none) (c : clean x) : Rel D (G.setIfInBounds g x) (K.setIfInBounds g x) := by
  refine ⟨by rw [Array.size_setIfInBounds, Array.size_setIfInBounds, r.size], fun i => ?_⟩
  have a := r.at_ i
  unfold At at a ⊢
  by_cases hi : g = i
  · subst hi
    rw [hg] at a ⊢
    dsimp only at a ⊢
    by_cases hl : g < G.size
    · have hl2 : g < K.size := by rw [← r.size]; exact hl
      rw [Array.getElem?_setIfInBounds_self_of_lt hl, Array.getElem?_setIfInBounds_self_of_lt hl2]
      exact ⟨rfl, fun y hy => by cases hy; exact c⟩
    · have hl2 : ¬ g < K.size := by rw [← r.size]; exact hl
      rw [Array.getElem?_eq_none (by rw [Array.size_setIfInBounds]; omega), Array.getElem?_eq_none (by rw [Array.size_setIfInBounds]; omega)]
      exact ⟨rfl, fun y hy => by cases hy⟩
  · rw [Array.getElem?_setIfInBounds_ne hi, Array.getElem?_setIfInBounds_ne hi]
    exact a
/-- what is read: the same to the eye -/
theorem Rel.seen (r : Rel D G K) {g : Nat} {st : GenState} (h : K[g]? = some st) : ∃ st', G[g]? = some st' ∧ st'.seen = st.seen := by
  have a := r.at_ g
  unfold At at a
  cases e : D g with
  | some x =>
    rw [e] at a
    rw [a.2.1] at h
    cases h
    exact ⟨x, a.1, (kill_seen x).symm⟩
  | none =>
    rw [e] at a
    exact ⟨st, a.1.trans h, rfl⟩
/-- no stuck one -/
theorem Rel.alive (r : Rel D G K) {g : Nat} {st : GenState} (h : K[g]? = some st) (hs : ∀ l c p fs cl, st ≠ .suspended (fun _ => .unsupported "") l c p fs cl) : D g = none ∧ G[g]? = some st ∧ clean st := by
  have a := r.at_ g
  unfold At at a
  cases e : D g with
  | some x =>
    rw [e] at a
    rw [a.2.1] at h
    cases x with
    | suspended k l c p fs cl => cases h; exact absurd rfl (hs l c p fs cl)
    | _ => exact absurd a.2.2 (by simp [sleeps])
  | none =>
    rw [e] at a
    exact ⟨rfl, a.1.trans h, a.2 st h⟩
end
theorem no_run_stuck {M : Model} {Γ : Ctx} {p : Pos} {w : String} {fs : List Frame} {s s' : Shared} {e : End} (h : Runs M Γ p (.unsupported w) fs s e s') : False := by
  generalize ht : (Sem.unsupported w : Sem Fin) = t at h
  induction h <;> first | (cases ht; done) | (rename_i ih _; exact ih ht) | (rename_i ih; exact ih ht) | skip
  all_goals (first | (rename_i ih1 ih2; exact ih1 ht) | (rename_i ih1 _ ih2; exact ih1 ht))
/-- the same state with other generators -/
abbrev wg (s : Shared) (G : Array GenState) : Shared := { s with gens := G }
theorem split_none {fs : List Frame} (h : fs.all noG = true) : splitAtGen fs = none := by
  induction fs with
  | nil => rfl
  | cons f r ih =>
    obtain ⟨h1, h2⟩ := Bool.and_eq_true_iff.mp (List.all_cons ▸ h)
    cases f with
    | gen => cases h1
    | ret =>
      show (splitAtGen r).map _ = none
      rw [ih h2]
      rfl
theorem all_app {fs gs : List Frame} (h : fs.all noG = true) (h2 : gs.all noG = true) : (fs ++ gs).all noG = true := by rw [List.all_append, h, h2]; rfl
theorem run_kill {D : Nat → Option GenState} {M : Model} {Γ : Ctx} {p : Pos} {t : Sem PySem.Fin} {fs : List Frame} {s s' : Shared} {e : End} (h : Runs M Γ p t fs s e s') :
    ∀ G, Rel D G s.gens → fs.all noG = true → ∃ G', Rel D G' s'.gens ∧ Runs M Γ p t fs (wg s G) e (wg s' G') ∧ endClean e := by
  induction h with
  | done => exact fun G r _ => ⟨G, r, .done, trivial⟩
  | raise => exact fun G r _ => ⟨G, r, .raise, trivial⟩
  | again hq _ ih => exact fun G r hf => let ⟨G', r', h', c⟩ := ih G r hf; ⟨G', r', .again hq h', c⟩
  | rule _ ih => exact fun G r hf => let ⟨G', r', h', c⟩ := ih G r hf; ⟨G', r', .rule h', c⟩
  | «at» _ ih => exact fun G r hf => let ⟨G', r', h', c⟩ := ih G r hf; ⟨G', r', .at h', c⟩
  | load ho _ ih => exact fun G r hf => let ⟨G', r', h', c⟩ := ih G r hf; ⟨G', r', .load ho h', c⟩
  | update ho _ ih => exact fun G r hf => let ⟨G', r', h', c⟩ := ih G r hf; ⟨G', r', .update ho h', c⟩
  | loadIfAlive _ ih => exact fun G r hf => let ⟨G', r', h', c⟩ := ih G r hf; ⟨G', r', .loadIfAlive h', c⟩
  | point _ ih => exact fun G r hf => let ⟨G', r', h', c⟩ := ih G r hf; ⟨G', r', .point h', c⟩
  | alloc _ ih => exact fun G r hf => let ⟨G', r', h', c⟩ := ih G r hf; ⟨G', r', .alloc h', c⟩
  | fresh _ ih => exact fun G r hf => let ⟨G', r', h', c⟩ := ih G r hf; ⟨G', r', .fresh h', c⟩
  | ask _ ih => exact fun G r hf => let ⟨G', r', h', c⟩ := ih G r hf; ⟨G', r', .ask h', c⟩
  | choose hn _ ih => exact fun G r hf => let ⟨G', r', h', c⟩ := ih G r hf; ⟨G', r', .choose hn h', c⟩
  | os _ ih => exact fun G r hf => let ⟨G', r', h', c⟩ := ih G r hf; ⟨G', r', .os h', c⟩
  | handled _ ih => exact fun G r hf => let ⟨G', r', h', c⟩ := ih G r hf; ⟨G', r', .handled h', c⟩
  | stack _ ih => exact fun G r hf => let ⟨G', r', h', c⟩ := ih G r hf; ⟨G', r', .stack h', c⟩
  | thread _ ih => exact fun G r hf => let ⟨G', r', h', c⟩ := ih G r hf; ⟨G', r', .thread h', c⟩
  | genState hg _ ih =>
    intro G r hf
    obtain ⟨st', h1, h2⟩ := r.seen hg
    obtain ⟨G', r', h', c⟩ := ih G r hf
    exact ⟨G', r', .genState h1 (by rw [h2]; exact h'), c⟩
  | @newGen Γ p k s e s' c _ ih =>
    intro G r hf
    obtain ⟨G', r', h', cc⟩ := ih (G.push (.fresh c)) (r.push (x := .fresh c) trivial) hf
    exact ⟨G', r', .newGen (by show Runs M Γ p (k G.size) [] _ e _; rw [r.size]; exact h'), cc⟩
  | call _ _ ih1 ih2 =>
    intro G r hf
    obtain ⟨G1, r1, h1, c1⟩ := ih1 G r rfl
    obtain ⟨G2, r2, h2, c2⟩ := ih2 G1 r1 hf
    exact ⟨G2, r2, .call h1 h2, c2⟩
  | callSusp _ ih =>
    intro G r hf
    obtain ⟨G1, r1, h1, c1⟩ := ih G r rfl
    exact ⟨G1, r1, .callSusp h1, all_app c1 rfl⟩
  | yield => exact fun G r _ => ⟨G, r, .yield, rfl⟩
  | resumeFresh hg _ hq _ ih1 ih2 =>
    intro G r hf
    obtain ⟨d, hg', cl⟩ := r.alive hg (fun _ _ _ _ _ z => nomatch z)
    obtain ⟨G1, r1, h1, c1⟩ := ih1 (G.setIfInBounds _ .running) (r.set d trivial) rfl
    obtain ⟨G2, r2, h2, c2⟩ := ih2 (G1.setIfInBounds _ _) (r1.set d c1.state) hf
    exact ⟨G2, r2, .resumeFresh hg' h1 hq h2, c2⟩
  | @resumeSuspended Γ p g rr l k s k₀ l₀ c₀ p₀ fs cl e₁ s₁ e s' hg hr hq _ ih1 ih2 =>
    intro G r hf
    by_cases hst : k₀ = fun _ => .unsupported ""
    · subst hst
      exact (no_run_stuck hr).elim
    · obtain ⟨d, hg', cl⟩ := r.alive hg (fun l c p fs' cl' z => by
        injection z with z1
        exact hst z1)
      obtain ⟨G1, r1, h1, c1⟩ := ih1 (G.setIfInBounds _ .running) (r.set d trivial) cl
      obtain ⟨G2, r2, h2, c2⟩ := ih2 (G1.setIfInBounds _ _) (r1.set d c1.state) hf
      exact ⟨G2, r2, .resumeSuspended hg' h1 hq h2, c2⟩
  | resumeJustStarted hg hv _ ih =>
    intro G r hf
    obtain ⟨d, hg', cl⟩ := r.alive hg (fun _ _ _ _ _ z => nomatch z)
    obtain ⟨G', r', h', c⟩ := ih G r hf
    exact ⟨G', r', .resumeJustStarted hg' hv h', c⟩
  | resumeThrowFresh hg _ ih =>
    intro G r hf
    obtain ⟨d, hg', cl⟩ := r.alive hg (fun _ _ _ _ _ z => nomatch z)
    obtain ⟨G', r', h', c⟩ := ih (G.setIfInBounds _ .finished) (r.set d trivial) hf
    exact ⟨G', r', .resumeThrowFresh hg' h', c⟩
  | resumeRunning hg _ ih =>
    intro G r hf
    obtain ⟨d, hg', cl⟩ := r.alive hg (fun _ _ _ _ _ z => nomatch z)
    obtain ⟨G', r', h', c⟩ := ih G r hf
    exact ⟨G', r', .resumeRunning hg' h', c⟩
  | resumeFinished hg _ ih =>
    intro G r hf
    obtain ⟨d, hg', cl⟩ := r.alive hg (fun _ _ _ _ _ z => nomatch z)
    obtain ⟨G', r', h', c⟩ := ih G r hf
    exact ⟨G', r', .resumeFinished hg' h', c⟩
  | segRet _ _ ih1 ih2 =>
    intro G r hf
    obtain ⟨f1, f2⟩ := Bool.and_eq_true_iff.mp (List.all_cons ▸ hf)
    obtain ⟨G1, r1, h1, c1⟩ := ih1 G r rfl
    obtain ⟨G2, r2, h2, c2⟩ := ih2 G1 r1 f2
    exact ⟨G2, r2, .segRet h1 h2, c2⟩
  | segGen _ _ _ _ =>
    intro G r hf
    obtain ⟨f1, f2⟩ := Bool.and_eq_true_iff.mp (List.all_cons ▸ hf)
    cases f1
  | segSuspOut hs _ ih =>
    intro G r hf
    obtain ⟨G1, r1, h1, c1⟩ := ih G r rfl
    exact ⟨G1, r1, .segSuspOut hs h1, all_app c1 hf⟩
  | segSuspGen hs _ _ _ _ _ =>
    intro G r hf
    rw [split_none hf] at hs
    cases hs
theorem wakes_kill {D : Nat → Option GenState} {M : Model} {Γ : Ctx} {p : Pos} {g : Nat} {r : Resume} {s s' : Shared} {res : GenResult} (h : Wakes M Γ p g r s res s') :
    ∀ G, Rel D G s.gens → ∃ G', Rel D G' s'.gens ∧ Wakes M Γ p g r (wg s G) res (wg s' G') := by
  intro G rl
  unfold Wakes at h
  cases hg : s.gens[g]? with
  | none =>
    rw [hg] at h
    exact h.elim
  | some gs =>
    rw [hg] at h
    cases gs with
    | fresh c =>
      obtain ⟨d, hg', cl⟩ := rl.alive hg (fun _ _ _ _ _ z => nomatch z)
      have hg2 : (wg s G).gens[g]? = some (.fresh c) := hg'
      cases r with
      | throw x =>
        obtain ⟨rfl, rfl⟩ := h
        refine ⟨_, rl.set (x := .finished) d trivial, ?_⟩
        unfold Wakes
        rw [hg2]
        exact ⟨rfl, rfl⟩
      | send v =>
        by_cases hv : v = .none
        · subst hv
          obtain ⟨e₁, s₁, hr, hq, rfl, rfl⟩ := h
          obtain ⟨G1, r1, h1, c1⟩ := run_kill hr (G.setIfInBounds g .running) (rl.set d trivial) rfl
          refine ⟨_, r1.set (x := e₁.genState) d c1.state, ?_⟩
          unfold Wakes
          rw [hg2]
          exact ⟨e₁, _, h1, hq, rfl, rfl⟩
        · have z : res = .justStarted ∧ s' = s := by cases v <;> first | exact absurd rfl hv | exact h
          obtain ⟨rfl, rfl⟩ := z
          refine ⟨G, rl, ?_⟩
          unfold Wakes
          rw [hg2]
          cases v <;> first | exact absurd rfl hv | exact ⟨rfl, rfl⟩
    | suspended k₀ l₀ c₀ p₀ fs cl =>
      obtain ⟨e₁, s₁, hr, hq, rfl, rfl⟩ := h
      by_cases hst : k₀ = fun _ => .unsupported ""
      · subst hst
        exact (no_run_stuck hr).elim
      · obtain ⟨d, hg', cl⟩ := rl.alive hg (fun l c p fs' cl' z => by
          injection z with z1
          exact hst z1)
        obtain ⟨G1, r1, h1, c1⟩ := run_kill hr (G.setIfInBounds g .running) (rl.set d trivial) cl
        refine ⟨_, r1.set (x := e₁.genState) d c1.state, ?_⟩
        unfold Wakes
        rw [show (wg s G).gens[g]? = some (.suspended k₀ l₀ c₀ p₀ fs _) from hg']
        exact ⟨e₁, _, h1, hq, rfl, rfl⟩
    | running =>
      obtain ⟨rfl, rfl⟩ := h
      obtain ⟨d, hg', cl⟩ := rl.alive hg (fun _ _ _ _ _ z => nomatch z)
      refine ⟨G, rl, ?_⟩
      unfold Wakes
      rw [show (wg s' G).gens[g]? = some .running from hg']
      exact ⟨rfl, rfl⟩
    | finished =>
      obtain ⟨rfl, rfl⟩ := h
      obtain ⟨d, hg', cl⟩ := rl.alive hg (fun _ _ _ _ _ z => nomatch z)
      refine ⟨G, rl, ?_⟩
      unfold Wakes
      rw [show (wg s' G).gens[g]? = some .finished from hg']
      exact ⟨rfl, rfl⟩
/-- what is shown of the stuck run, told of the run itself -/
def Told (D : Nat → Option GenState) (F : Shared → Prop) (s : Shared) : Prop := ∃ s0, F s0 ∧ Rel D s.gens s0.gens ∧ s = wg s0 s.gens
theorem told_of {D : Nat → Option GenState} {F : Shared → Prop} {s : Shared} {G : Array GenState} (h : F s) (r : Rel D G s.gens) : Told D F (wg s G) := ⟨s, h, r, rfl⟩
theorem wp_kill {α : Type} {D : Nat → Option GenState} (M : Model) (Γ : Ctx) (t : Sem α) : ∀ (Q : α → Pos → Shared → Prop) (E : Value → Pos → Shared → Prop) (p : Pos) (s : Shared) (G : Array GenState), Rel D G s.gens → wp M Γ t Q E p s →
    wp M Γ t (fun a p' => Told D (Q a p')) (fun e p' => Told D (E e p')) p (wg s G) := by
  induction t with
  | pure a => exact fun Q E p s G r h => told_of h r
  | raise e => exact fun Q E p s G r h => told_of h r
  | unsupported _ => exact fun Q E p s G r h => h
  | finish _ => exact fun Q E p s G r h => h
  | rule _ k ih => exact fun Q E p s G r h => ih () Q E p s G r h
  | «at» p' k ih => exact fun Q E p s G r h => ih () Q E p' s G r h
  | load a _ k ih => exact fun Q E p s G r h => let ⟨o, ho, h⟩ := h; ⟨o, ho, ih o Q E p s G r h⟩
  | update a _ f k ih => exact fun Q E p s G r h => ⟨h.1, ih () Q E p { s with heap := s.heap.update a f } G r h.2⟩
  | loadIfAlive a k ih => exact fun Q E p s G r h => ih _ Q E p s G r h
  | point _ k ih => exact fun Q E p s G r h => ih () Q E p s G r h
  | register _ _ => exact fun Q E p s G r h => h
  | alloc o k ih => exact fun Q E p s G r h => ih _ Q E p { s with heap := s.heap.push o } G r h
  | fresh k ih => exact fun Q E p s G r h => ih _ Q E p { s with toks := s.toks + 1 } G r h
  | ask k ih => exact fun Q E p s G r h => ih _ Q E p s G r h
  | choose src m k ih => exact fun Q E p s G r h => ⟨h.1, ih _ Q E p { s with drawn := s.drawn.bump src } G r h.2⟩
  | os q _ k ih => exact fun Q E p s G r h => ih _ Q E p { s with os := (Os.step s.os q).1 } G r h
  | call c hd _ _ k ih =>
    intro Q E p s G r h
    obtain ⟨rr, s', hr, h⟩ := h
    obtain ⟨G', r', h', _⟩ := run_kill hr G r rfl
    exact ⟨rr, wg s' G', h', ih rr Q E p s' G' r' h⟩
  | handled own k ih => exact fun Q E p s G r h => ih _ Q E p s G r h
  | genState g k ih =>
    intro Q E p s G r h
    obtain ⟨st, hs, h⟩ := h
    obtain ⟨st', h1, h2⟩ := r.seen hs
    refine ⟨st', h1, ?_⟩
    rw [h2]
    exact ih _ Q E p s G r h
  | newGen c k ih =>
    intro Q E p s G r h
    have z := ih _ Q E p { s with gens := s.gens.push (.fresh c) } (G.push (.fresh c)) (r.push trivial) h
    show wp M Γ (k G.size) _ _ _ _
    rw [r.size]
    exact z
  | resume g rr _ k ih =>
    intro Q E p s G r h
    obtain ⟨res, s', hw, h⟩ := h
    obtain ⟨G', r', h'⟩ := wakes_kill hw G r
    exact ⟨res, wg s' G', h', ih res Q E p s' G' r' h⟩
  | yield _ _ _ _ => exact fun Q E p s G r h => h
  | stack k ih => exact fun Q E p s G r h => ih _ Q E p s G r h
  | fork _ _ => exact fun Q E p s G r h => h
  | thread k ih => exact fun Q E p s G r h => ih _ Q E p s G r h
  | await _ _ _ _ _ => exact fun Q E p s G r h => h
/-- every sleeping generator stuck -/
def killAll (s : Shared) : Shared := wg s (s.gens.map kill)
def asleepIn (s : Shared) (i : Nat) : Option GenState := match s.gens[i]? with
  | some x => if sleeps x then some x else none
  | none => none
theorem rel_kill (s : Shared) : Rel (asleepIn s) s.gens (killAll s).gens := by
  refine ⟨by show _ = (s.gens.map kill).size; rw [Array.size_map], fun i => ?_⟩
  unfold At asleepIn
  show match (match s.gens[i]? with | some x => if sleeps x then some x else none | none => none) with | some x => s.gens[i]? = some x ∧ (s.gens.map kill)[i]? = some (kill x) ∧ sleeps x = true | none => s.gens[i]? = (s.gens.map kill)[i]? ∧ ∀ x, (s.gens.map kill)[i]? = some x → clean x
  rw [Array.getElem?_map]
  cases h : s.gens[i]? with
  | none => exact ⟨rfl, fun x hx => by cases hx⟩
  | some x =>
    cases x with
    | suspended k l c p fs cl => exact ⟨rfl, rfl, rfl⟩
    | fresh c => exact ⟨rfl, fun y hy => by cases hy; trivial⟩
    | running => exact ⟨rfl, fun y hy => by cases hy; trivial⟩
    | finished => exact ⟨rfl, fun y hy => by cases hy; trivial⟩
/-- THE RULE: what is shown from the state where all sleeping generators are stuck -/
theorem wpAny_kill {α : Type} {M : Model} {A : Around} {t : Sem α} {Q : α → Shared → Prop} {E : Value → Shared → Prop} {s : Shared} (h : wpAny M A t Q E (killAll s)) :
    wpAny M A t (fun a => Told (asleepIn s) (Q a)) (fun e => Told (asleepIn s) (E e)) s := fun Γ p hΓ =>
  wp_kill (D := asleepIn s) M Γ t _ _ p (killAll s) s.gens (rel_kill s) (h Γ p hΓ)
/-- a sleeping one sleeps on as it was -/
theorem Told.keeps {s s' : Shared} {F : Shared → Prop} (h : Told (asleepIn s) F s') {g : Nat} {x : GenState} (hx : s.gens[g]? = some x) (hs : sleeps x = true) : s'.gens[g]? = some x := by
  obtain ⟨s0, _, r, _⟩ := h
  have a := r.at_ g
  unfold At at a
  have e : asleepIn s g = some x := by unfold asleepIn; rw [hx]; show (if sleeps x then some x else none) = _; rw [if_pos hs]
  rw [e] at a
  exact a.1
end GK
set_option Elab.async false
set_option linter.all false
set_option maxRecDepth 100000
set_option maxHeartbeats 2000000
/-! G2: a segment of a generator's run by its end alone (Sg): the rules. -/
namespace SG
open PySem PySem.Spec PyProof.Rows L2
open Sem (wp)

def Sg (M : Model) (A : Around) (F : End → Shared → Prop) (c : Code) (t : Sem PySem.Fin) (fs : List Frame) (s : Shared) : Prop :=
  ∀ Γ p, Γ.code = c → Γ.Woken A → ∃ e s', Runs M Γ p t fs s e s' ∧ F e s'
section
variable {M : Model} {A : Around} {F : End → Shared → Prop} {c : Code} {fs : List Frame} {s : Shared}
theorem sg_wrap {α : Type} {m : Sem α} {K : α → Sem PySem.Fin} {H : Value → Sem PySem.Fin} {gd lv}
    (h : wpAny M (A.over c fs) m (fun a s' => Sg M A F c (K a) fs s') (fun x s' => Sg M A F c (H x) fs s') s) : Sg M A F c (m.wrap K H gd lv) fs s := by
  rintro Γ p rfl hΓ
  exact runs_wrap_of_wp K H gd lv m (h (Γ.over fs) p (hΓ.over fs)) (fun a p' s' h' => h' Γ p' rfl hΓ) (fun x p' s' h' => h' Γ p' rfl hΓ)
theorem sg_bind {α : Type} {m : Sem α} {K : α → Sem PySem.Fin} (h : wpAny M (A.over c fs) m (fun a s' => Sg M A F c (K a) fs s') (fun x s' => Sg M A F c (.raise x) fs s') s) : Sg M A F c (m >>= K) fs s := by
  rw [Sem.bind_eq_wrap']; exact sg_wrap h
theorem sg_at {p' : Pos} {k : Unit → Sem PySem.Fin} (h : Sg M A F c (k ()) fs s) : Sg M A F c (.at p' k) fs s :=
  sg_wrap (m := standAt p') (K := k) (H := .raise) (gd := id) (lv := id) (wpAny_standAt h)
theorem sg_point {l : List Value} {k : Unit → Sem PySem.Fin} (h : Sg M A F c (k ()) fs s) : Sg M A F c (.point l k) fs s :=
  sg_wrap (m := point) (K := k) (H := .raise) (gd := id) (lv := fun _ => l) (wpAny_point h)
theorem sg_call {c' : Code} {h g l} {k : Result → Sem PySem.Fin} (hc : ∀ p, Sg M A F c' (M.den c') (.ret k h g l c p [] :: fs) s) : Sg M A F c (.call c' h g l k) fs s := by
  rintro Γ p rfl hΓ
  obtain ⟨e, s', hr, he⟩ := hc p (Γ.goto c') p rfl (hΓ.goto c')
  exact ⟨e, s', runs_call_seg hr, he⟩
theorem sg_leaf {k h g l c₁ p₁ kp} (r : Result) (hk : Sg M A F c₁ (k r) fs s) : Sg M A F c (leafOf r) (.ret k h g l c₁ p₁ kp :: fs) s := by
  rintro Γ p rfl hΓ
  obtain ⟨e, s', hr, he⟩ := hk (Γ.goto c₁) p₁ rfl (hΓ.goto c₁)
  exact ⟨e, s', Runs.pop r hr, he⟩
theorem sg_again {c' : Code} (hq : c'.quiet = true) (hc : Sg M A F c' (M.den c') fs s) : Sg M A F c (.pure (.again c')) fs s := by
  rintro Γ p rfl hΓ
  obtain ⟨e, s', hr, he⟩ := hc (Γ.goto c') p rfl (hΓ.goto c')
  exact ⟨e, s', Runs.head (c₁ := c') (fun _ _ x => .again hq x) hr, he⟩
theorem sg_end (r : Result) (h : F (.ret r) s) : Sg M A F c (leafOf r) [] s := by
  rintro Γ p rfl _
  exact ⟨.ret r, s, Runs.leaf r, h⟩
theorem sg_yield {v g l} {k : Resume → Sem PySem.Fin} (hfs : splitAtGen fs = none) (h : ∀ p, F (.susp v g l k c p fs) s) : Sg M A F c (.yield v g l k) fs s := by
  rintro Γ p rfl _
  exact ⟨_, s, Runs.yield' fs hfs, h p⟩
variable {env : Env} {K : Flow → Sem PySem.Fin} {H : Value → Sem PySem.Fin} {gd : Bool → Bool} {lv : List Value → List Value}
theorem sg_execs_nil (h : Sg M A F c (K .next) fs s) : Sg M A F c ((execs [] env).wrap K H gd lv) fs s := h
theorem sg_execs_cons {st : Stmt} {rest : List Stmt}
    (h : Sg M A F c ((exec st env).wrap (fun f => match f with | .next => (execs rest env).wrap K H gd lv | f => K f) H gd lv) fs s) : Sg M A F c ((execs (st :: rest) env).wrap K H gd lv) fs s := by
  rw [execs_cons_wrap]; exact h
theorem sg_Expr_Yield {e : Expr} {ypos pos : Pos} (hfs : splitAtGen fs = none) (hgd : gd false = false)
    (h : wpAny M (A.over c fs) (eval e env) (fun v s' => ∀ l p (k : Resume → Sem PySem.Fin), (∀ (F' : End → Shared → Prop) s'', Sg M A F' c (K .next) fs s'' → Sg M A F' c (k (.send .none)) fs s'') → F (.susp v false l k c p fs) s') (fun x s' => Sg M A F c (H x) fs s') s)
    (hco : env.scope.isCoroutine = false := by rfl) (hi : interactive env = false := by rfl) : Sg M A F c ((exec (.Expr (.Yield (some e) ypos) pos) env).wrap K H gd lv) fs s := by
  rw [exec_Expr env _ pos hi rfl]
  show Sg M A F c (.at pos fun _ => ((eval e env >>= fun v => (standAt ypos >>= fun _ => yieldOut env v)) >>= fun x => dropValue (.Yield (some e) ypos) pos x).wrap K H gd lv) fs s
  have hy : ∀ v, yieldOut env v = yieldValue v := fun v => by simp only [yieldOut, hco, Bool.false_eq_true, if_false]
  simp only [hy]
  refine sg_at ?_
  rw [Sem.bind_eq_wrap', Sem.bind_eq_wrap', Sem.wrap_wrap, Sem.wrap_wrap]
  refine sg_wrap (wpAny_mono h (fun v s' h' => ?_) fun _ _ x => x)
  refine sg_at ?_
  show Sg M A F c (.yield v (gd false) _ _) fs s'
  rw [hgd]
  exact sg_yield hfs fun p => h' _ p _ fun _ s'' hx => hx
end
section
variable {prog : Program} {w : World} {A : Around} {F : End → Shared → Prop} {c : Code} {fs : List Frame} {s : Shared} {env : Env}
theorem sg_func {body : List Stmt}
    (h : Sg (model prog w) A F (.func body env) ((execs body env).wrap (fun f => .pure (.done (.ret (match f with | .ret v => v | _ => .none)))) (fun e => (leaving env e).wrap (fun _ => .raise e) .raise id id) id id) fs s) :
    Sg (model prog w) A F (.func body env) ((model prog w).den (.func body env)) fs s := by
  show Sg _ A F _ (.point [] fun _ => ((execs body env).onRaise (leaving env)) >>= _) fs s
  refine sg_point ?_
  rw [Sem.onRaise_eq_wrap, Sem.bind_eq_wrap', Sem.wrap_wrap]
  rw [Sem.wrap_congr (execs body env) _ _ (K' := fun f => .pure (.done (.ret (match f with | .ret v => v | _ => .none))))
    (H' := fun e => (leaving env e).wrap (fun _ => .raise e) .raise id id) (fun f => by cases f <;> rfl)
    (fun e => by rw [Sem.bind_eq_wrap, Sem.wrap_wrap]; rfl)]
  exact h
end

section
variable {M : Model} {A : Around} {F : End → Shared → Prop} {c : Code} {fs : List Frame} {s : Shared} {env : Env} {K : Flow → Sem PySem.Fin} {H : Value → Sem PySem.Fin} {gd : Bool → Bool} {lv : List Value → List Value}
theorem sg_bw {α β : Type} {m : Sem α} {f : α → Sem β} {K : β → Sem PySem.Fin} (h : wpAny M (A.over c fs) m (fun a s' => Sg M A F c ((f a).wrap K H gd lv) fs s') (fun x s' => Sg M A F c (H x) fs s') s) :
    Sg M A F c ((m >>= f).wrap K H gd lv) fs s := by
  rw [Sem.bind_eq_wrap', Sem.wrap_wrap]; exact sg_wrap h
abbrev Fl : Value → Shared → Prop := fun _ _ => False
/-- for, in a generator: the loop's code, called; k: what comes behind it -/
theorem sg_For {target iter : Expr} {body : List Stmt} {pos : Pos}
    (h : wpAny M (A.over c fs) (eval iter env) (fun x s₁ => wpAny M (A.over c fs) (pyIter x) (fun it s₂ => ∀ (k : Result → Sem PySem.Fin) (l : List Value) (p : Pos), (∀ (F' : End → Shared → Prop) f s'', Sg M A F' c (K f) fs s'' → Sg M A F' c (k (.ok f)) fs s'') →
      Sg M A F (.forLoop target it body [] env) (M.den (.forLoop target it body [] env)) (.ret k none (gd false) l c p [] :: fs) s₂) Fl s₁) Fl s)
    (hs : ∀ x, foldedSetIterable iter env x = pure x := by intro _; rfl) : Sg M A F c ((exec (.For target iter body [] pos) env).wrap K H gd lv) fs s := by
  rw [exec_For]
  refine sg_bw (wpAny_standAt ?_)
  refine sg_bw (wpAny_mono h (fun x s₁ h₁ => ?_) fun _ _ z => z.elim)
  refine sg_bw (wpAny_of_eq (hs x) ?_)
  refine sg_bw (wpAny_standAt ?_)
  refine sg_bw (wpAny_holding (wpAny_mono h₁ (fun it s₂ h₂ => ?_) fun _ _ z => z.elim))
  exact sg_call fun p => h₂ _ _ p fun _ f s'' z => z
end
section
variable {prog : Program} {w : World} {A : Around} {F : End → Shared → Prop} {c : Code} {fs : List Frame} {s : Shared} {env : Env}
/-- what a turn's body goes on to -/
def turnK (c : Code) : Flow → Sem PySem.Fin := fun f => match f with
  | .next | .cont => .pure (.again c)
  | .brk => .pure (.done .next)
  | .ret v => .pure (.done (.ret v))
theorem sg_forLoop {target : Expr} {it : Value} {body : List Stmt}
    (h : wpAny (model prog w) (A.over (.forLoop target it body [] env) fs) (pyNext it) (fun r s₁ => match r with
      | none => Sg (model prog w) A F (.forLoop target it body [] env) (.pure (.again (.block [] env))) fs s₁
      | some v => wpAny (model prog w) (A.over (.forLoop target it body [] env) fs) (letOwnedTupleGo target it v) (fun _ s₂ => wpAny (model prog w) (A.over (.forLoop target it body [] env) fs) (assign target env v) (fun _ s₃ =>
          ∀ J : Value → Sem PySem.Fin, Sg (model prog w) A F (.forLoop target it body [] env) ((execs body env).wrap (turnK (.forLoop target it body [] env)) J id id) fs s₃) Fl s₂) Fl s₁) Fl s) :
    Sg (model prog w) A F (.forLoop target it body [] env) ((model prog w).den (.forLoop target it body [] env)) fs s := by
  show Sg _ A F _ ((forTurn target it body [] env).onRaise (fun x => do noteFrame x env; theTreesLotGoes x)) fs s
  rw [Sem.onRaise_eq_wrap]
  unfold forTurn
  refine sg_bw (wpAny_standAt ?_)
  refine sg_bw (wpAny_onRaise (wpAny_mono h (fun r s₁ h₁ => ?_) fun _ _ z => z.elim))
  cases r with
  | none => exact h₁
  | some v =>
    dsimp only
    refine sg_bw (wpAny_mono h₁ (fun _ s₂ h₂ => ?_) fun _ _ z => z.elim)
    refine sg_bw (wpAny_mono h₂ (fun _ s₃ h₃ => ?_) fun _ _ z => z.elim)
    rw [Sem.bind_eq_wrap', Sem.wrap_wrap]
    rw [Sem.wrap_congr (execs body env) _ _ (K' := turnK (.forLoop target it body [] env)) (fun f => by cases f <;> rfl) fun _ => rfl]
    exact h₃ _
theorem sg_block_nil (h : Sg (model prog w) A F (.block [] env) (leafOf (.ok .next)) fs s) : Sg (model prog w) A F c (.pure (.again (.block [] env))) fs s := by
  refine sg_again rfl ?_
  exact h
end

/-! ### a generator is woken -/
def GoesS (M : Model) (A : Around) (F : End → Shared → Prop) (gs : GenState) (r : Resume) (s : Shared) : Prop :=
  match gs with
  | .fresh c => r = .send .none ∧ Sg M A F c (M.den c) [] s
  | .suspended k _ c _ fs _ => Sg M A F c (k r) fs s
  | _ => False
theorem wpAny_resumeS {M : Model} {A : Around} {F : End → Shared → Prop} {E : Value → Shared → Prop} {s : Shared} {g : Nat} {gs : GenState} {r : Resume} {l : List Value} {α : Type} {k : GenResult → Sem α} {Q : α → Shared → Prop} (hg : s.gens[g]? = some gs)
    (hgo : GoesS M A F gs r (s.setGen g .running)) (hq : ∀ e s₁, F e s₁ → e.quiet = true) (h : ∀ e s₁, F e s₁ → s.gens.size ≤ s₁.gens.size → wpAny M A (k e.result) Q E (s₁.setGen g e.genState)) : wpAny M A (.resume g r l k) Q E s := by
  intro Γ p hΓ
  rw [Sem.wp_resume]
  have hB : ∀ c, (Γ.wake c p).Woken A := fun c => hΓ.wake c p
  have hsz : ∀ {s₁ : Shared}, (s.setGen g .running).gens.size ≤ s₁.gens.size → s.gens.size ≤ s₁.gens.size := fun {s₁} z => by rw [GenW.setGen_size] at z; exact z
  cases gs with
  | fresh c =>
    obtain ⟨rfl, hs⟩ := hgo
    obtain ⟨e₁, s₁, hr, he⟩ := hs (Γ.wake c p) p rfl (hB c)
    exact ⟨_, _, by unfold Wakes; rw [hg]; exact ⟨e₁, s₁, hr, hq e₁ s₁ he, rfl, rfl⟩, h e₁ s₁ he (hsz (GenW.runs_gsz hr)) Γ p hΓ⟩
  | suspended k₀ l₀ c₀ p₀ fs₀ cl =>
    obtain ⟨e₁, s₁, hr, he⟩ := hgo (Γ.wake c₀ p) p₀ rfl (hB c₀)
    exact ⟨_, _, by unfold Wakes; rw [hg]; exact ⟨e₁, s₁, hr, hq e₁ s₁ he, rfl, rfl⟩, h e₁ s₁ he (hsz (GenW.runs_gsz hr)) Γ p hΓ⟩
  | running => exact hgo.elim
  | finished => exact hgo.elim
theorem next_genS {P : Program} {w : World} {A : Around} {E : Value → Shared → Prop} {s : Shared} {F : End → Shared → Prop} {a : Addr} {g : Nat} {gs : GenState} {Q : Option Value → Shared → Prop} (hh : A.handled = none)
    (hl : s.heap.NoLimit) (hroom : A.depth < recursionLimit) (hg : s.heap.IsGen a g) (hgs : s.gens[g]? = some gs) (hgo : GoesS (model P w) A.in1 F gs (.send .none) (s.setGen g .running))
    (hq : ∀ e s₁, F e s₁ → e.quiet = true)
    (hY : ∀ v gd l k c p fs s₁, F (.susp v gd l k c p fs) s₁ → s.gens.size ≤ s₁.gens.size → Q (some v) (s₁.setGen g (End.susp v gd l k c p fs).genState))
    (hP : ∀ r s₁, F (.ret r) s₁ → (r = .ok (.ret .none) ∨ r = .ok .next) ∧ ∀ h', (∀ b o, s₁.heap.get? b = some o → h'.get? b = some o) → Q none { s₁.setGen g .finished with heap := h' }) :
    wpAny (model P w) A (pyNext (.ref a)) Q E s := by
  unfold pyNext
  refine wpAny_bind (wpAny_attempt (wpAny_callSpecial?_slot (name := Str.ofString "__next__") hg.typeIs slot_gen_next
    (wpAny_call_entry slot_gen_next hg.typeIs entry_gen_next ?_ (args_gen_next _))))
  show wpAny _ A.in1 (Builtin.Generator.genWake (.ref a) (.send .none)) _ _ s
  unfold Builtin.Generator.genWake
  refine wpAny_bind (wpAny_holding (wpAny_genNumber hg (wpAny_bind (wpAny_genState hgs ?_))))
  cases gs with
  | running => exact hgo.elim
  | finished => exact hgo.elim
  | _ =>
    refine wpAny_bind (wpAny_roomToWake hl hroom ?_)
    show wpAny _ A.in1 (.resume g (.send .none) [] _) _ _ s
    refine wpAny_resumeS hgs hgo hq fun e s₁ he hsz => ?_
    cases e with
    | ret x =>
      obtain ⟨hr, hp⟩ := hP x s₁ he
      have hres : End.result (.ret x) = .returned .none := by
        rcases hr with hr | hr <;> rw [hr] <;> rfl
      first | rw [hres] | simp only [hres]
      show wpAny _ A.in1 (newExc (.type "StopIteration") [] >>= _) _ _ _
      refine wpAny_bind ?_
      simp only [newExc, newTuple]
      refine wpAny_bind (wpAny_newObj_type ?_ (by size_fits))
      refine wpAny_bind (m := firstArgMember _ _) (wpAny_of_eq (a := Value.none) (by first | rfl | (simp only [firstArgMember]; rfl)) ?_)
      refine wpAny_newObj_type ?_ (by size_fits)
      simp only [raiseNew]
      refine wpAny_bind (wpAny_bind (wpAny_handled ?_))
      first | rw [show A.in1.handled = none from hh] | rw [hh]
      refine wpAny_throw ?_
      refine wpAny_bind (wpAny_isInstance (T := "StopIteration") (b := true) ⟨_, Heap.get?_push_size _ rfl, rfl⟩ isSubtype_stop ?_)
      exact wpAny_pure (hp _ fun b o hb => Heap.get?_push_of_some _ (Heap.get?_push_of_some _ hb))
    | susp v gd l k c p fs => exact wpAny_pure ⟨v, rfl, wpAny_pure (hY v gd l k c p fs s₁ he hsz)⟩
end SG
set_option Elab.async false
set_option linter.all false
set_option maxRecDepth 100000
set_option maxHeartbeats 2000000
/-! G3: the frame of a generator between its yields; its consumer. -/
namespace SG
open PySem PySem.Spec PyProof.Rows L2
open Sem (wp)

/-- the heap below an address -/
def cut (h : Heap) (n : Nat) : Heap := { h with objs := h.objs.extract 0 n }
theorem cut_get {h : Heap} {n : Nat} {b : Addr} {o : Obj} (e : (cut h n).get? b = some o) : h.get? b = some o ∧ b < n := by
  obtain ⟨e1, e2⟩ := Heap.get?_some_iff.mp e
  have e1' : (h.objs.extract 0 n)[b]? = some o := e1
  rw [Array.getElem?_extract] at e1'
  split at e1'
  · rename_i hb
    rw [Nat.zero_add] at e1'
    exact ⟨Heap.get?_some_iff.mpr ⟨e1', e2⟩, by have hb' : b < min n h.objs.size - 0 := hb; exact Nat.lt_of_lt_of_le hb' (Nat.le_trans (Nat.sub_le _ _) (Nat.min_le_left _ _))⟩
  · cases e1'
theorem get_cut {h : Heap} {n : Nat} {b : Addr} {o : Obj} (e : h.get? b = some o) (hb : b < n) : (cut h n).get? b = some o := by
  have hl := Heap.lt_size e
  obtain ⟨e1, e2⟩ := Heap.get?_some_iff.mp e
  refine Heap.get?_some_iff.mpr ⟨?_, e2⟩
  show (h.objs.extract 0 n)[b]? = some o
  rw [Array.getElem?_extract, if_pos (show b < min n h.objs.size - 0 from Nat.lt_min.mpr ⟨hb, hl⟩), Nat.zero_add]
  exact e1
theorem cut_size {h : Heap} {n : Nat} (hn : n ≤ h.objs.size) : (cut h n).objs.size = n := by
  show (h.objs.extract 0 n).size = n
  rw [Array.size_extract]; omega
def cutS (s : Shared) (n : Nat) : Shared := { s with heap := cut s.heap n }

/-- a generator def's frame: what stays -/
structure GP where
  P : Program
  w : World
  K : PySem.W.Frag
  mg : Str → Option Value
  base : Heap
  N : List Str
  qual : Str
  scope : Scope
  f : Addr
  cd : Value
  A : Around
  L : Addr
  outer : List Env
abbrev GP.env (G : GP) : Env := envOfC G.qual G.scope G.L G.f G.cd
/-- the frame woken at s₀ over H -/
abbrev GP.cx (G : GP) (s₀ : Shared) (H : Hp) : Cx where
  prog := G.P
  w := G.w
  K := G.K
  mg := G.mg
  base := G.base
  A := G.A.deeper G.env
  N := G.N
  s_0 := cutS s₀ G.L
  H_0 := H
  env := G.env
  outer := G.outer
  stack := G.env :: G.outer
  ex := []
  fn := fun _ => true
  calm := true
  pn := []
  xe := fun _ _ => False
structure GP.Ok (G : GP) : Prop where
  mod : Mod G.K G.mg G.base
  kind : G.scope.kind = .function
  noc : ∀ y ∈ G.scope.names, y.2 ≠ .cell ∧ y.2 ≠ .free
  hd : G.A.handled = none
  frames : G.A.frames = some G.outer
  bsz : G.base.objs.size ≤ G.L
  frL : ∀ b ∈ frs G.outer, b < G.L
section
variable {G : GP} {s s₀ : Shared} {H : Hp} {σ : L2.St} {pins : List (Addr × Obj)}
theorem cells_nil : ∀ (l : List (Str × NameKind)) (n : Nat), (∀ y ∈ l, y.2 ≠ .cell ∧ y.2 ≠ .free) → PySem.cellsFrom n l [] = []
  | [], _, _ => rfl
  | (x, k) :: r, n, h => by
    have h1 : k ≠ .cell := (h (x, k) List.mem_cons_self).1
    have h2 : (k == NameKind.cell) = false := by cases k <;> first | rfl | exact absurd rfl h1
    show (if (k == NameKind.cell) = true then _ else _) = _
    rw [h2, if_neg Bool.false_ne_true]
    exact cells_nil r n fun y hy => h y (List.mem_cons_of_mem _ hy)
theorem GP.Ok.cells (O : G.Ok) : G.env.cells = [] := cells_nil _ _ O.noc
theorem GP.Ok.nocell (O : G.Ok) {x : Str} {c : Addr} (h : G.env.cells.lookup x = some c) : False := by rw [O.cells] at h; cases h
theorem GP.Ok.nokind (O : G.Ok) {x : Str} {k : NameKind} (h : G.scope.names.lookup x = some k) : k ≠ .cell ∧ k ≠ .free := O.noc _ (PySem.mem_of_lookup h)
theorem GP.Ok.vis (O : G.Ok) {x : Str} (h : Vis G.scope x) : G.scope.names.lookup x = some .local := by
  rcases h with h | h | h
  · exact h
  · exact absurd rfl (O.nokind h).1
  · exact absurd rfl (O.nokind h).2
theorem funs_cut {base h : Heap} {n : Nat} : ∀ (l : List Env), (∀ b ∈ frs l, b < n) → h.FunFrames base l → (cut h n).FunFrames base l
  | [], _, _ => trivial
  | env :: r, hf, hl => by
    obtain ⟨hk, ⟨L, o, h1, h2, h3, h4⟩, hr⟩ := hl
    have hL : L ∈ frs (env :: r) := by unfold frs; rw [List.filterMap_cons, h1]; exact List.mem_cons_self
    refine ⟨hk, ⟨L, o, h1, h2, get_cut h3 (hf L hL), h4⟩, funs_cut r (fun b hb => hf b ?_) hr⟩
    unfold frs; rw [List.filterMap_cons, h1]; exact List.mem_cons_of_mem _ hb
/-- the names as they stand -/
def Names (G : GP) (σ : L2.St) (h : Heap) : Prop := ∃ m, h.Ns G.L m ∧ ∀ (i : Nat) (x : Str) (v : V), G.N[i]? = some x → σ[i]? = some (some v) → Vis G.scope x → ∃ u, RelV v u ∧ m x = some u
theorem names_of {H' : Hp} (O : G.Ok) (I : Inv (G.cx s₀ H) pins σ H' s) : Names G σ s.heap := by
  obtain ⟨m, hn, hl⟩ := I.loc
  refine ⟨m, hn, fun i x v h1 h2 h3 => ?_⟩
  obtain ⟨u, r, l⟩ := hl i x v h1 h2 h3
  rcases l with ⟨_, l⟩ | ⟨_, c, e, _⟩
  · exact ⟨u, r, l⟩
  · exact (O.nocell e).elim
/-- the frame stands again -/
theorem wake (O : G.Ok) (e0 : Env0 G.P G.w G.K G.mg G.base G.A G.outer s H) (hN : Names G σ s.heap) (hL : H G.L = none) (len : σ.length = G.N.length)
    (hp : ∀ p ∈ pins, s.heap.get? p.1 = some p.2 ∧ H p.1 = none ∧ G.L < p.1 ∧ ∀ v, p.2.data ≠ .cell v) : Inv (G.cx s H) pins σ H s := by
  obtain ⟨m, hn, hl⟩ := id hN
  have hLs : G.L < s.heap.objs.size := hn.lt
  have ct : ∀ {b o}, (cut s.heap G.L).get? b = some o → s.heap.get? b = some o := fun e => (cut_get e).1
  refine ⟨⟨O.mod, O.kind, rfl, rfl, ?_, fun y z c h1 h2 => (O.nocell h1).elim, fun y hy => ?_, fun y c _ h => (O.nocell h).elim, fun _ => O.hd, Around.frames_deeper O.frames, .inr ⟨rfl, rfl⟩, fun b z => (by cases z), fun b o e => ?_, ?_, fun b _ _ z => (by cases z),
      fun b z => (by cases z), funs_cut _ O.frL e0.funs, e0.frf⟩, rfl, e0.bare, ⟨fun b o e _ _ _ => ct e, fun b o e _ _ _ => ⟨o.slots, ct e⟩, fun _ _ _ n _ => n, fun b o e _ => ⟨o, ct e⟩, fun _ _ e => e, fun _ _ _ e => e, fun b ps e => ⟨#[], by rw [Array.append_empty]; exact e⟩⟩,
    ⟨m, hn, fun i x v h1 h2 h3 => ?_⟩, fun y c h => (O.nocell h).elim, hL, fun y c h => (O.nocell h).elim, fun p hpp => ?_, e0.hok, len⟩
  · show (cut s.heap G.L).objs.size ≤ G.L
    rw [cut_size (Nat.le_of_lt hLs)]; exact Nat.le_refl _
  · rcases hy with hy | hy
    · exact absurd rfl (O.nokind hy).1
    · exact absurd rfl (O.nokind hy).2
  · obtain ⟨h1, h2⟩ := e0.bs b o e
    exact ⟨get_cut h1 (Nat.lt_of_lt_of_le (Heap.lt_size e) O.bsz), h2⟩
  · show G.base.objs.size ≤ (cut s.heap G.L).objs.size
    rw [cut_size (Nat.le_of_lt hLs)]; exact O.bsz
  · obtain ⟨u, r, z⟩ := hl i x v h1 h2 h3
    exact ⟨u, r, .inl ⟨O.vis h3, z⟩⟩
  · obtain ⟨h1, h2, h3, h4⟩ := hp p hpp
    exact ⟨h1, h2, Nat.ne_of_gt h3, fun z => absurd (O.frL _ z) (Nat.not_lt.mpr (Nat.le_of_lt h3)), h4⟩
/-- what a run up to the next yield has done; xt: records of others that it kept -/
structure Aft (G : GP) (xt : List (Addr × Obj)) (s₀ : Shared) (H H1 : Hp) (s1 : Shared) : Prop where
  os : s1.os = s₀.os
  bare : AllBare s1.gens
  un : Un (frs G.outer) [] H H1 (cut s₀.heap G.L) s1.heap
  hok : HOk G.P G.w H1 s1.heap
  kx : ∀ p ∈ xt, s1.heap.get? p.1 = some p.2 ∧ H1 p.1 = none
theorem aft_of {H1 : Hp} {xt : List (Addr × Obj)} (I : Inv (G.cx s₀ H) (pins ++ xt) σ H1 s) : Aft G xt s₀ H H1 s := ⟨I.os, I.bare, I.base, I.hok, fun p hp => let z := I.pin p (List.mem_append_right _ (List.mem_append_right _ hp)); ⟨z.1, z.2.1⟩⟩
/-- the records that the sleeper needs -/
def Fps (G : GP) (a : Addr) (go : Obj) (fp xt : List (Addr × Obj)) (H : Hp) (s : Shared) : Prop :=
  (a, go) ∈ fp ∧ ∀ p ∈ fp, s.heap.get? p.1 = some p.2 ∧ H p.1 = none ∧ G.L ≤ p.1 ∧ (∀ v, p.2.data ≠ .cell v) ∧ ∀ q ∈ xt, p.1 ≠ q.1
/-- the records of others that a run is to keep -/
def Xts (G : GP) (fp xt : List (Addr × Obj)) (H : Hp) (s : Shared) : Prop :=
  ∀ q ∈ xt, s.heap.get? q.1 = some q.2 ∧ H q.1 = none ∧ G.L < q.1 ∧ (∀ v, q.2.data ≠ .cell v) ∧ ∀ p ∈ fp, p.1 ≠ q.1
/-- it hands out the items one by one -/
def EndOk (G : GP) (a : Addr) (go : Obj) : List (Int × Int) → List (Addr × Obj) → Hp → Shared → End → Shared → Prop
  | [], xt, H, s₀, e, s1 => e = .ret (.ok (.ret .none)) ∧ Aft G xt s₀ H H s1
  | (x, y) :: r, xt, H, s₀, e, s1 => ∃ t l k c p fs fp, e = .susp (.ref t) false l k c p fs ∧ fs.any Frame.guarded = false ∧ H t = none ∧ Aft G xt s₀ H (upd H t (.tup [.int x, .int y])) s1 ∧ Fps G a go fp xt (upd H t (.tup [.int x, .int y])) s1 ∧
      ∀ s'' H'' xt'', Env0 G.P G.w G.K G.mg G.base G.A G.outer s'' H'' → (∀ p ∈ fp, s''.heap.get? p.1 = some p.2 ∧ H'' p.1 = none) → Xts G fp xt'' H'' s'' → Sg (model G.P G.w) G.A (EndOk G a go r xt'' H'' s'') c (k (.send .none)) fs s''
theorem EndOk.quiet {a : Addr} {go : Obj} : ∀ {its : List (Int × Int)} {xt : List (Addr × Obj)} {H : Hp} {s₀ : Shared} {e : End} {s1 : Shared}, EndOk G a go its xt H s₀ e s1 → e.quiet = true
  | [], _, _, _, _, _, h => by rw [h.1]; rfl
  | (x, y) :: r, _, _, _, _, _, h => by
    obtain ⟨t, l, k, c, p, fs, fp, rfl, hg, _⟩ := h
    show (!(false || fs.any Frame.guarded)) = true
    rw [hg]; rfl
end
end SG
set_option Elab.async false
set_option linter.all false
set_option maxRecDepth 100000
set_option maxHeartbeats 2000000
/-! G4: for y in range(c): for x in range(a): yield (x, y). -/
namespace SG
open PySem PySem.Spec PyProof.Rows L2
open Sem (wp)

section
variable {G : GP} {s s₀ : Shared} {H : Hp} {σ : L2.St} {pins : List (Addr × Obj)}
theorem cut_le {h : Heap} {n : Nat} : (cut h n).objs.size ≤ n := by
  show (h.objs.extract 0 n).size ≤ n
  rw [Array.size_extract]; omega
/-- an iterator of ours, in each context -/
theorem fp_again (O : G.Ok) {b : Addr} (hn : H b = none) (hb : G.L < b) (hp : ∀ p ∈ pins, p.1 ≠ b) : FpOk (G.cx s₀ H) pins H b :=
  ⟨hn, Nat.ne_of_gt hb, fun z => absurd (O.frL _ z) (Nat.not_lt.mpr (Nat.le_of_lt hb)), .inr (Nat.le_trans cut_le (Nat.le_of_lt hb)), fun x c e => (O.nocell e).elim, fun p hpp => hp p (by simpa using hpp)⟩
theorem names_keep {h h' : Heap} {o : Obj} (hN : Names G σ h) (e : h.get? G.L = some o) (e' : h'.get? G.L = some o) : Names G σ h' := by
  obtain ⟨m, ⟨o', es, ep, ho, r⟩, hl⟩ := hN
  rw [e] at ho; cases ho
  exact ⟨m, ⟨o, es, ep, e', r⟩, hl⟩
theorem names_obj {h : Heap} (hN : Names G σ h) : ∃ o, h.get? G.L = some o ∧ ∀ v, o.data ≠ .cell v := by
  obtain ⟨m, ⟨o, es, ep, ho, hd, _⟩, hl⟩ := hN
  exact ⟨o, ho, fun v z => by rw [hd] at z; cases z⟩
/-- row y from x = i on -/
def rowFrom (n : Nat) (y : Int) (i : Nat) : List (Int × Int) := (List.range' i (n - i)).map fun (x : Nat) => ((x : Int), y)
theorem row_end {n : Nat} {y : Int} {i : Nat} (h : n ≤ i) : rowFrom n y i = [] := by
  unfold rowFrom; rw [Nat.sub_eq_zero_of_le h]; rfl
theorem row_step {n : Nat} {y : Int} {i : Nat} (h : i < n) : rowFrom n y i = ((i : Int), y) :: rowFrom n y (i + 1) := by
  unfold rowFrom
  have e : n - i = (n - (i + 1)) + 1 := by omega
  rw [e, List.range'_succ]
  rfl
/-- rows from y = j on -/
def rowsFrom (n c : Nat) (j : Nat) : List (Int × Int) := (List.range' j (c - j)).flatMap fun (y : Nat) => rowFrom n (y : Int) 0
theorem rows_end {n c j : Nat} (h : c ≤ j) : rowsFrom n c j = [] := by
  unfold rowsFrom; rw [Nat.sub_eq_zero_of_le h]; rfl
theorem rows_step {n c j : Nat} (h : j < c) : rowsFrom n c j = rowFrom n (j : Int) 0 ++ rowsFrom n c (j + 1) := by
  unfold rowsFrom
  have e : c - j = (c - (j + 1)) + 1 := by omega
  rw [e, List.range'_succ, List.flatMap_cons]

variable {a : Addr} {go : Obj}
theorem in_loop (O : G.Ok) {tx e : Expr} {yp pos : Pos} {n : Nat} {y : Int} {it : Addr} {fp : List Addr} {tn : Nat → Heap → Prop} {rest : List (Int × Int)} {fs : List Frame} {iy ix : Nat} (T : Turn G.P G.w G.K tx (Itr 0 n) fp it tn)
    (gX : ∀ s₀ H, PG (G.cx s₀ H) tx (gName ix)) (hE : ∀ s₀ H, PE (G.cx s₀ H) e (tTup (tCons (tVar ix) (tCons (tVar iy) tNil)))) (hne : iy ≠ ix)
    (hco : G.scope.isCoroutine = false) (hi : interactive G.env = false)
    (hov : G.A.over (.forLoop tx (.ref it) [.Expr (.Yield (some e) yp) pos] [] G.env) fs = G.A.deeper G.env) (hsp : splitAtGen fs = none) (hgd : fs.any Frame.guarded = false)
    (hgo : (a, go) ∈ pins) (hpL : ∀ p ∈ pins, G.L < p.1) (hit : ∀ b ∈ fp, G.L < b ∧ ∀ p ∈ pins, p.1 ≠ b)
    (R : L2.St → Prop) (hR : ∀ σ v, R σ → R (σ.set ix (some v))) (hRy : ∀ σ, R σ → σ[iy]? = some (some (.int y)) ∧ ix < σ.length)
    (hend : ∀ xt s₀ H σ s, G.L ≤ s₀.heap.objs.size → (∀ q ∈ xt, G.L < q.1 ∧ ∀ p ∈ pins, p.1 ≠ q.1) → R σ → Inv (G.cx s₀ H) (pins ++ xt) σ H s → Sg (model G.P G.w) G.A (EndOk G a go rest xt H s₀) (.block [] G.env) (leafOf (.ok .next)) fs s) :
    ∀ (m i : Nat) (xt : List (Addr × Obj)) (s₀ s : Shared) (H : Hp) (σ : L2.St), i + m = n → R σ → Inv (G.cx s₀ H) (pins ++ xt) σ H s → (∀ b ∈ fp, H b = none) → tn i s.heap → G.L ≤ s₀.heap.objs.size → (∀ q ∈ xt, G.L < q.1 ∧ (∀ p ∈ pins, p.1 ≠ q.1) ∧ q.1 ∉ fp) →
      Sg (model G.P G.w) G.A (EndOk G a go (rowFrom n y i ++ rest) xt H s₀) (.forLoop tx (.ref it) [.Expr (.Yield (some e) yp) pos] [] G.env) ((model G.P G.w).den (.forLoop tx (.ref it) [.Expr (.Yield (some e) yp) pos] [] G.env)) fs s := by
  have len : ∀ {σ : L2.St} {s₀ H H' s pins}, Inv (G.cx s₀ H) pins σ H' s → σ.length = G.N.length := fun I => I.len
  intro m
  induction m with
  | zero =>
    intro i xt s₀ s H σ hi' hRσ I hH st hL0 hX0
    have hpx : ∀ b ∈ fp, ∀ p ∈ pins ++ xt, p.1 ≠ b := fun b hb p hp => (List.mem_append.mp hp).elim ((hit b hb).2 p) fun z e => (hX0 p z).2.2 (e ▸ hb)
    have hin : n ≤ i := by omega
    rw [row_end hin]
    refine sg_forLoop ?_
    rw [hov]
    refine wpAny_mono (T.done (G.cx s₀ H) rfl rfl rfl rfl i (pins ++ xt) s σ H Fl I (fun b hb => fp_again O (hH b hb) (hit b hb).1 (hpx b hb)) st hin) (fun r s1 ⟨hr, I1⟩ => ?_) fun _ _ z => z.elim
    subst hr
    exact sg_block_nil (hend xt s₀ H σ s1 hL0 (fun q hq => ⟨(hX0 q hq).1, (hX0 q hq).2.1⟩) hRσ I1)
  | succ m ih =>
    intro i xt s₀ s H σ hi' hRσ I hH st hL0 hX0
    have hpx : ∀ b ∈ fp, ∀ p ∈ pins ++ xt, p.1 ≠ b := fun b hb p hp => (List.mem_append.mp hp).elim ((hit b hb).2 p) fun z e => (hX0 p z).2.2 (e ▸ hb)
    have hin : i < n := by omega
    rw [row_step hin]
    refine sg_forLoop ?_
    rw [hov]
    have hF : ∀ b ∈ fp, FpOk (G.cx s₀ H) (pins ++ xt) H b := fun b hb => fp_again O (hH b hb) (hit b hb).1 (hpx b hb)
    refine wpAny_mono (T.item (G.cx s₀ H) rfl rfl rfl rfl i (pins ++ xt) s σ H Fl I hF st hin) (fun r s1 ⟨u, hr, h4⟩ => ?_) fun _ _ z => z.elim
    subst hr
    refine wpAny_mono h4 (fun _ s2 ⟨x, H2, I2, rx, yx, st2, fr2⟩ => ?_) fun _ _ z => z.elim
    obtain ⟨rfl, rfl⟩ := yx
    have I2' := I2.pinned hF (T.obj _ _ st2)
    refine wpAny_mono ((gX s₀ H2).run _ s2 σ H2 _ u (fun σ' H' => σ' = σ.set ix (some (.int (0 + i))) ∧ H' = H2) I2' rx ⟨rfl, rfl⟩) (fun _ s3 ⟨σ3, H3, I3, e3, eH⟩ => ?_) fun _ _ z => z.elim
    subst e3 eH
    intro J
    refine sg_execs_cons (sg_Expr_Yield hsp rfl ?_ hco hi)
    rw [hov]
    obtain ⟨ry, rl⟩ := hRy σ hRσ
    refine wpAny_mono ((hE s₀ H3).run _ s3 _ H3 (fun v H' => ∃ t, v = .ref t ∧ H3 t = none ∧ H' = upd H3 t (.tup [.int i, .int y])) I3 ?_) (fun v s4 ⟨x, H4, I4, rv, t, ex, ht, eH⟩ => ?_) fun _ _ z => z.elim
    · refine ⟨.int (0 + i), by rw [List.getElem?_set_self rl], .int y, by rw [List.getElem?_set_ne (Ne.symm hne)]; exact ry, by show 2 ≤ sizeLine; decide, fun p hp => ⟨p, rfl, hp, by rw [Int.zero_add]⟩⟩
    subst ex eH
    obtain rfl : v = Value.ref t := rv
    intro l p k hk
    have hN4 := names_of O I4
    obtain ⟨oL, eL, dL⟩ := names_obj hN4
    have I4' : Inv (G.cx s₀ H3) ((pins ++ pinsAt fp s2.heap) ++ xt) (σ.set ix (some (.int (0 + i)))) (upd H3 t (.tup [.int i, .int y])) s4 := I4.pins_of fun q hq => I4.pin q (List.mem_append_right _ (by
      rcases List.mem_append.mp hq with hq | hq
      · rcases List.mem_append.mp hq with hq | hq
        · exact List.mem_append_left _ (List.mem_append_left _ hq)
        · exact List.mem_append_right _ hq
      · exact List.mem_append_left _ (List.mem_append_right _ hq)))
    refine ⟨t, l, k, _, p, fs, (G.L, oL) :: (pins ++ pinsAt fp s2.heap), rfl, hgd, ht, aft_of I4', ⟨List.mem_cons_of_mem _ (List.mem_append_left _ hgo), fun q hq => ?_⟩, fun s'' H'' xt'' e0 hfp hxs => hk _ s'' ?_⟩
    · rcases List.mem_cons.mp hq with hq | hq
      · rw [hq]; exact ⟨eL, I4.free, Nat.le_refl _, dL, fun r hr => Nat.ne_of_lt (hX0 r hr).1⟩
      · obtain ⟨p1, p2, p3, p4, p5⟩ := I4'.pin q (List.mem_append_right _ (List.mem_append_left _ hq))
        refine ⟨p1, p2, ?_, p5, fun r hr => ?_⟩
        · rcases List.mem_append.mp hq with hq | hq
          · exact Nat.le_of_lt (hpL q hq)
          · exact Nat.le_of_lt (hit _ (of_pinsAt hq).1).1
        · rcases List.mem_append.mp hq with hq | hq
          · exact (hX0 r hr).2.1 q hq
          · exact fun e => (hX0 r hr).2.2 (e ▸ (of_pinsAt hq).1)
    · have hLs := hfp (G.L, oL) List.mem_cons_self
      have hps : ∀ q ∈ pins ++ pinsAt fp s2.heap, s''.heap.get? q.1 = some q.2 ∧ H'' q.1 = none := fun q hq => hfp q (List.mem_cons_of_mem _ hq)
      have hI := wake (σ := σ.set ix (some (.int (0 + i)))) (pins := pins ++ xt'') O e0 (names_keep hN4 eL hLs.1) hLs.2 (len I4) fun q hq => by
        rcases List.mem_append.mp hq with hq | hq
        · obtain ⟨h1, h2⟩ := hps q (List.mem_append_left _ hq)
          obtain ⟨_, _, _, _, p5⟩ := I4'.pin q (List.mem_append_right _ (List.mem_append_left _ (List.mem_append_left _ hq)))
          exact ⟨h1, h2, hpL q hq, p5⟩
        · obtain ⟨h1, h2, h3, h4, _⟩ := hxs q hq
          exact ⟨h1, h2, h3, h4⟩
      refine sg_again rfl (ih (i + 1) xt'' s'' s'' H'' _ (by omega) (hR _ _ hRσ) hI (fun b hb => ?_) ?_ (Nat.le_of_lt (Heap.lt_size hLs.1)) fun q hq => ?_)
      · obtain ⟨oi, ei, di⟩ := T.obj _ _ st2 b hb
        exact (hps (b, oi) (List.mem_append_right _ (mem_pinsAt hb ei))).2
      · exact T.keep _ _ _ st2 fun b hb o e => (hps (b, o) (List.mem_append_right _ (mem_pinsAt hb e))).1
      · obtain ⟨_, _, h3, _, h5⟩ := hxs q hq
        refine ⟨h3, fun p hp => h5 p (List.mem_cons_of_mem _ (List.mem_append_left _ hp)), fun hb => ?_⟩
        obtain ⟨oi, ei, di⟩ := T.obj _ _ st2 _ hb
        exact h5 (q.1, oi) (List.mem_cons_of_mem _ (List.mem_append_right _ (mem_pinsAt hb ei))) rfl

theorem out_loop (O : G.Ok) {ty tx itx e : Expr} {yp pos px : Pos} {n c : Nat} {it : Addr} {fp : List Addr} {tn : Nat → Heap → Prop} {fs : List Frame} {ia iy ix : Nat} (T : Turn G.P G.w G.K ty (Itr 0 c) fp it tn)
    (gX : ∀ s₀ H, PG (G.cx s₀ H) tx (gName ix)) (gY : ∀ s₀ H, PG (G.cx s₀ H) ty (gName iy)) (hX : ∀ s₀ H, PI (G.cx s₀ H) tx itx (iRng1 (tCons (tVar ia) tNil))) (hE : ∀ s₀ H, PE (G.cx s₀ H) e (tTup (tCons (tVar ix) (tCons (tVar iy) tNil)))) (hne : iy ≠ ix) (hna : ia ≠ ix) (hnb : ia ≠ iy)
    (hn : (n : Int) < 2 ^ 62) (hco : G.scope.isCoroutine = false) (hi : interactive G.env = false) (hfold : ∀ x, foldedSetIterable itx G.env x = pure x)
    (hov : G.A.over (.forLoop ty (.ref it) [.For tx itx [.Expr (.Yield (some e) yp) pos] [] px] [] G.env) fs = G.A.deeper G.env) (hsp : splitAtGen fs = none) (hgd : fs.any Frame.guarded = false)
    (hgo : (a, go) ∈ pins) (hpL : ∀ p ∈ pins, G.L < p.1) (hit : ∀ b ∈ fp, G.L < b ∧ ∀ p ∈ pins, p.1 ≠ b) (hNl : ia < G.N.length ∧ iy < G.N.length ∧ ix < G.N.length)
    (hend : ∀ xt s₀ H σ s, Inv (G.cx s₀ H) (pins ++ xt) σ H s → Sg (model G.P G.w) G.A (EndOk G a go [] xt H s₀) (.block [] G.env) (leafOf (.ok .next)) fs s) :
    ∀ (m j : Nat) (xt : List (Addr × Obj)) (s₀ s : Shared) (H : Hp) (σ : L2.St), j + m = c → σ[ia]? = some (some (.int n)) → Inv (G.cx s₀ H) (pins ++ xt) σ H s → (∀ b ∈ fp, H b = none) → tn j s.heap → G.L ≤ s₀.heap.objs.size → (∀ q ∈ xt, G.L < q.1 ∧ (∀ p ∈ pins, p.1 ≠ q.1) ∧ q.1 ∉ fp) →
      Sg (model G.P G.w) G.A (EndOk G a go (rowsFrom n c j) xt H s₀) (.forLoop ty (.ref it) [.For tx itx [.Expr (.Yield (some e) yp) pos] [] px] [] G.env) ((model G.P G.w).den (.forLoop ty (.ref it) [.For tx itx [.Expr (.Yield (some e) yp) pos] [] px] [] G.env)) fs s := by
  have len : ∀ {σ : L2.St} {s₀ H H' s pins}, Inv (G.cx s₀ H) pins σ H' s → σ.length = G.N.length := fun I => I.len
  intro m
  induction m with
  | zero =>
    intro j xt s₀ s H σ hi' hRσ I hH st hL0 hX0
    have hpx : ∀ b ∈ fp, ∀ p ∈ pins ++ xt, p.1 ≠ b := fun b hb p hp => (List.mem_append.mp hp).elim ((hit b hb).2 p) fun z e => (hX0 p z).2.2 (e ▸ hb)
    have hin : c ≤ j := by omega
    rw [rows_end hin]
    refine sg_forLoop ?_
    rw [hov]
    refine wpAny_mono (T.done (G.cx s₀ H) rfl rfl rfl rfl j (pins ++ xt) s σ H Fl I (fun b hb => fp_again O (hH b hb) (hit b hb).1 (hpx b hb)) st hin) (fun r s1 ⟨hr, I1⟩ => ?_) fun _ _ z => z.elim
    subst hr
    exact sg_block_nil (hend xt s₀ H σ s1 I1)
  | succ m ih =>
    intro j xt s₀ s H σ hi' hRσ I hH st hL0 hX0
    have hpx : ∀ b ∈ fp, ∀ p ∈ pins ++ xt, p.1 ≠ b := fun b hb p hp => (List.mem_append.mp hp).elim ((hit b hb).2 p) fun z e => (hX0 p z).2.2 (e ▸ hb)
    have hin : j < c := by omega
    rw [rows_step hin]
    refine sg_forLoop ?_
    rw [hov]
    have hF : ∀ b ∈ fp, FpOk (G.cx s₀ H) (pins ++ xt) H b := fun b hb => fp_again O (hH b hb) (hit b hb).1 (hpx b hb)
    refine wpAny_mono (T.item (G.cx s₀ H) rfl rfl rfl rfl j (pins ++ xt) s σ H Fl I hF st hin) (fun r s1 ⟨u, hr, h4⟩ => ?_) fun _ _ z => z.elim
    subst hr
    refine wpAny_mono h4 (fun _ s2 ⟨x, H2, I2, rx, yx, st2, fr2⟩ => ?_) fun _ _ z => z.elim
    obtain ⟨rfl, rfl⟩ := yx
    have I2' := I2.pinned hF (T.obj _ _ st2)
    refine wpAny_mono ((gY s₀ H2).run _ s2 σ H2 _ u (fun σ' H' => σ' = σ.set iy (some (.int (0 + j))) ∧ H' = H2) I2' rx ⟨rfl, rfl⟩) (fun _ s3 ⟨σ3, H3, I3, e3, eH⟩ => ?_) fun _ _ z => z.elim
    subst e3 eH
    intro J
    refine sg_execs_cons (sg_For ?_ hfold)
    rw [hov]
    have ra : (σ.set iy (some (.int (0 + (j : Int)))))[ia]? = some (some (.int n)) := by rw [List.getElem?_set_ne (Ne.symm hnb)]; exact hRσ
    refine wpAny_mono ((hX s₀ H3).run _ s3 _ H3 (fun J' H' => J' = Itr 0 n ∧ H' = H3) I3 ?_) (fun v s4 h4 => wpAny_mono h4 (fun itv s5 h5 => ?_) fun _ _ z => z.elim) fun _ _ z => z.elim
    · exact ⟨.int n, ra, (n : Int), rfl, by omega, hn, by rw [Int.toNat_natCast], rfl⟩
    obtain ⟨it2, fp2, tn2, J2, H5, e5, I5, T2, st5, f5, eJ, eH⟩ := h5
    subst e5 eJ eH
    intro k l p hk
    have pr5 : ∀ q ∈ pins ++ pinsAt fp s2.heap, G.L < q.1 := fun q hq => by
      rcases List.mem_append.mp hq with hq | hq
      · exact hpL q hq
      · exact (hit _ (of_pinsAt hq).1).1
    have hl : σ.length = G.N.length := len I
    refine in_loop (fs := .ret k none (id false) l _ p [] :: fs) (y := (j : Int)) (rest := rowsFrom n c (j + 1)) (pins := pins ++ pinsAt fp s2.heap) O T2 gX hE hne hco hi ((GenW.over_loop rfl rfl).trans hov) ?_ ?_ (List.mem_append_left _ hgo) pr5 (fun b hb => ?_)
      (fun σ => σ[ia]? = some (some (.int n)) ∧ σ[iy]? = some (some (.int j)) ∧ σ.length = G.N.length) (fun σ v h => ?_) (fun σ h => ⟨h.2.1, by rw [h.2.2]; exact hNl.2.2⟩) (fun xt' s₀' H' σ' s' hL' hX' hR I' => ?_) n 0 xt s₀ s5 H5 _ (Nat.zero_add _) ⟨ra, ?_, by rw [List.length_set]; exact hl⟩ (I5.pins_of fun q hq => I5.pin q (List.mem_append_right _ (by
        rcases List.mem_append.mp hq with hq | hq
        · rcases List.mem_append.mp hq with hq | hq
          · exact List.mem_append_left _ (List.mem_append_left _ hq)
          · exact List.mem_append_right _ hq
        · exact List.mem_append_left _ (List.mem_append_right _ hq)))) (fun b hb => (f5 b hb).1) st5 hL0 (fun q hq => ⟨(hX0 q hq).1, fun p hp => (List.mem_append.mp hp).elim ((hX0 q hq).2.1 p) (fun z e => (hX0 q hq).2.2 (e ▸ (of_pinsAt z).1)), fun hb => (f5 _ hb).2.2.2.2.2 q (List.mem_append_right _ (List.mem_append_left _ (List.mem_append_right _ hq))) rfl⟩)
    · show (splitAtGen fs).map _ = none
      rw [hsp]; rfl
    · show (id false || fs.any Frame.guarded) = false
      rw [hgd]; rfl
    · obtain ⟨q1, q2, q3, q4, q5, q6⟩ := f5 b hb
      refine ⟨?_, fun p hp => q6 p (List.mem_append_right _ (by
        rcases List.mem_append.mp hp with hp | hp
        · exact List.mem_append_left _ (List.mem_append_left _ hp)
        · exact List.mem_append_right _ hp))⟩
      have q4' : (cut s₀.heap G.L).objs.size ≤ b := by
        rcases q4 with z | z
        · cases z
        · exact z
      rw [cut_size hL0] at q4'
      exact Nat.lt_of_le_of_ne q4' (Ne.symm q2)
    · refine ⟨?_, ?_, ?_⟩
      · rw [List.getElem?_set_ne (Ne.symm hna)]; exact h.1
      · rw [List.getElem?_set_ne (Ne.symm hne)]; exact h.2.1
      · rw [List.length_set]; exact h.2.2
    · refine sg_leaf (.ok .next) (hk _ .next s' ?_)
      show Sg _ _ _ _ (.pure (.again _)) _ _
      refine sg_again rfl (ih (j + 1) xt' s₀' s' H' σ' (by omega) hR.1 (I'.pins_of fun q hq => I'.pin q (List.mem_append_right _ (by
        rcases List.mem_append.mp hq with hq | hq
        · exact List.mem_append_left _ (List.mem_append_left _ hq)
        · exact List.mem_append_right _ hq))) (fun b hb => ?_) ?_ hL' fun q hq => ⟨(hX' q hq).1, fun p hp => (hX' q hq).2 p (List.mem_append_left _ hp), fun hb => ?_⟩)
      · obtain ⟨oi, ei, di⟩ := T.obj _ _ st2 b hb
        exact (I'.pin (b, oi) (List.mem_append_right _ (List.mem_append_left _ (List.mem_append_right _ (mem_pinsAt hb ei))))).2.1
      · exact T.keep _ _ _ st2 fun b hb o e => (I'.pin (b, o) (List.mem_append_right _ (List.mem_append_left _ (List.mem_append_right _ (mem_pinsAt hb e))))).1
      · obtain ⟨oi, ei, di⟩ := T.obj _ _ st2 _ hb
        exact (hX' q hq).2 (q.1, oi) (List.mem_append_right _ (mem_pinsAt hb ei)) rfl
    · rw [List.getElem?_set_self (by rw [hl]; exact hNl.2.1), Int.zero_add]
end
end SG
set_option Elab.async false
set_option linter.all false
set_option maxRecDepth 100000
set_option maxHeartbeats 2000000
/-! G5: the whole generator; its call; its consumer. -/
namespace SG
open PySem PySem.Spec PyProof.Rows L2
open Sem (wp)
section
variable {G : GP} {s s₀ : Shared} {H : Hp} {σ : L2.St} {pins : List (Addr × Obj)} {a : Addr} {go : Obj}
theorem gen_run {xt : List (Addr × Obj)} (O : G.Ok) {st : Stmt} {t : TS} {ty ity tx itx e : Expr} {yp pos px py : Pos} {n c ia ic iy ix : Nat}
    (hS : ∀ s₀ H, PS (G.cx s₀ H) st t) (gX : ∀ s₀ H, PG (G.cx s₀ H) tx (gName ix)) (gY : ∀ s₀ H, PG (G.cx s₀ H) ty (gName iy)) (hX : ∀ s₀ H, PI (G.cx s₀ H) tx itx (iRng1 (tCons (tVar ia) tNil))) (hY : ∀ s₀ H, PI (G.cx s₀ H) ty ity (iRng1 (tCons (tVar ic) tNil)))
    (hE : ∀ s₀ H, PE (G.cx s₀ H) e (tTup (tCons (tVar ix) (tCons (tVar iy) tNil)))) (hne : iy ≠ ix) (hna : ia ≠ ix) (hnb : ia ≠ iy)
    (hn : (n : Int) < 2 ^ 62) (hc : (c : Int) < 2 ^ 62) (hco : G.scope.isCoroutine = false) (hi : interactive G.env = false) (hfold : ∀ x, foldedSetIterable itx G.env x = pure x) (hfold2 : ∀ x, foldedSetIterable ity G.env x = pure x)
    (ha : G.L < a) (hNl : ia < G.N.length ∧ iy < G.N.length ∧ ix < G.N.length) (hL0 : G.L ≤ s₀.heap.objs.size)
    (hX0 : ∀ q ∈ xt, a < q.1) (I : Inv (G.cx s₀ H) ([(a, go)] ++ xt) σ H s) (ht : t { nx := fun σ' H' => σ'[ia]? = some (some (.int n)) ∧ σ'[ic]? = some (some (.int c)) ∧ H' = H, rt := fun _ _ => False } σ H) :
    Sg (model G.P G.w) G.A (EndOk G a go (rowsFrom n c 0) xt H s₀) (.func [st, .For ty ity [.For tx itx [.Expr (.Yield (some e) yp) pos] [] px] [] py] G.env) ((model G.P G.w).den (.func [st, .For ty ity [.For tx itx [.Expr (.Yield (some e) yp) pos] [] px] [] py] G.env)) [] s := by
  refine sg_func (sg_execs_cons (sg_wrap ?_))
  rw [GenW.over_func]
  refine wpAny_mono ((hS s₀ H).run _ s σ H _ I ht) (fun f s1 q => ?_) fun _ _ z => z.elim
  cases f with
  | ret v => obtain ⟨_, _, _, _, _, q⟩ := q; exact q.elim
  | brk => obtain ⟨_, _, _, q⟩ := q; exact q.elim
  | cont => obtain ⟨_, _, _, q⟩ := q; exact q.elim
  | next =>
    obtain ⟨σ1, H1, I1, r1, r2, eH⟩ := q
    subst eH
    refine sg_execs_cons (sg_For ?_ hfold2)
    rw [GenW.over_func]
    refine wpAny_mono ((hY s₀ H1).run _ s1 _ H1 (fun J' H' => J' = Itr 0 c ∧ H' = H1) I1 ⟨.int c, r2, (c : Int), rfl, by omega, hc, by rw [Int.toNat_natCast], rfl⟩) (fun v s4 h4 => wpAny_mono h4 (fun itv s5 h5 => ?_) fun _ _ z => z.elim) fun _ _ z => z.elim
    obtain ⟨it2, fp2, tn2, J2, H5, e5, I5, T2, st5, f5, eJ, eH⟩ := h5
    subst e5 eJ eH
    intro k l p hk
    refine out_loop (fs := [.ret k none (id false) l _ p []]) (pins := [(a, go)]) O T2 gX gY hX hE hne hna hnb hn hco hi hfold ((GenW.over_loop rfl rfl).trans GenW.over_func) rfl rfl (List.mem_singleton.mpr rfl) (fun q hq => by rw [List.mem_singleton.mp hq]; exact ha) (fun b hb => ?_) hNl
      (fun xt' s₀' H' σ' s' I' => ?_) c 0 xt s₀ s5 H5 _ (Nat.zero_add _) r1 I5 (fun b hb => (f5 b hb).1) st5 hL0 (fun q hq => ⟨Nat.lt_trans ha (hX0 q hq), fun p hp => by rw [List.mem_singleton.mp hp]; exact Nat.ne_of_lt (hX0 q hq), fun hb => (f5 _ hb).2.2.2.2.2 q (List.mem_append_right _ (List.mem_append_right _ hq)) rfl⟩)
    · obtain ⟨q1, q2, q3, q4, q5, q6⟩ := f5 b hb
      refine ⟨?_, fun p hp => q6 p (List.mem_append_right _ (List.mem_append_left _ hp))⟩
      have q4' : (cut s₀.heap G.L).objs.size ≤ b := by
        rcases q4 with z | z
        · cases z
        · exact z
      rw [cut_size hL0] at q4'
      exact Nat.lt_of_le_of_ne q4' (Ne.symm q2)
    · refine sg_leaf (.ok .next) (hk _ .next s' ?_)
      exact sg_end (.ok (.ret .none)) ⟨rfl, aft_of I'⟩
end
end SG
set_option Elab.async false
set_option linter.all false
set_option maxRecDepth 100000
set_option maxHeartbeats 2000000
/-! G6: the consumer of a generator: for x in g(). -/
namespace SG
open PySem PySem.Spec PyProof.Rows L2
open Sem (wp)

/-- the generator's frame, called from X -/
abbrev gpX (X : Cx) (N : List Str) (qual : Str) (scope : Scope) (f : Addr) (cd : Value) (L : Addr) (A : Around) : GP where
  P := X.prog
  w := X.w
  K := X.K
  mg := X.mg
  base := X.base
  N := N
  qual := qual
  scope := scope
  f := f
  cd := cd
  A := A
  L := L
  outer := X.stack
/-- what the runs of a generator whose frame is at L may change is nothing of X's; xt: kept -/
structure Yng (X : Cx) (pins xt : List (Addr × Obj)) (L : Addr) (H : Hp) : Prop where
  ch : ∀ b, L ≤ b → H b = none → (∀ p ∈ xt, p.1 ≠ b) → (b ∈ X.ex ∨ X.s_0.heap.objs.size ≤ b) ∧ b ≠ X.env.locals ∧ (∀ x c, X.env.cells.lookup x = some c → c ≠ b) ∧ ∀ p ∈ X.pn ++ pins, p.1 ≠ b
  fr : ∀ b ∈ X.fs, b < L
theorem yng_of {X : Cx} {pins : List (Addr × Obj)} {σ : L2.St} {H H' : Hp} {s : Shared} (I : Inv X pins σ H s) : Yng X pins [] s.heap.objs.size H' :=
  ⟨fun b hb _ _ => ⟨.inr (Nat.le_trans I.sz hb), Nat.ne_of_gt (Nat.lt_of_lt_of_le I.lt hb), fun x c e => let ⟨_, q⟩ := I.cell x c e; Nat.ne_of_lt (Nat.lt_of_lt_of_le q.lt hb), fun p hp => Nat.ne_of_lt (Nat.lt_of_lt_of_le (Heap.lt_size (I.pin p hp).1) hb)⟩,
    fun b hb => Nat.not_le.mp fun h => I.nofs h hb⟩
/-- a generator's object -/
structure GObj (go : Obj) (g : Nat) : Prop where
  cls : go.cls = .type "generator"
  dat : ∃ nm qn, go.data = .fields #[.int g 0, nm, qn]
  slots : go.slots = #[]
theorem GObj.isGen {go : Obj} {g : Nat} (h : GObj go g) {a : Addr} {hp : Heap} (e : hp.get? a = some go) : hp.IsGen a g := by
  obtain ⟨nm, qn, hd⟩ := h.dat
  exact ⟨go, nm, qn, e, h.cls, hd, h.slots⟩
theorem GObj.nocell {go : Obj} {g : Nat} (h : GObj go g) : ∀ v, go.data ≠ .cell v := fun v z => by
  obtain ⟨nm, qn, hd⟩ := h.dat
  rw [hd] at z; cases z
/-- it can be woken now -/
def NextOk (G : GP) (a : Addr) (go : Obj) (g : Nat) (its : List (Int × Int)) (xt : List (Addr × Obj)) (H : Hp) (s : Shared) : Prop :=
  s.heap.get? a = some go ∧ ∃ gs, s.gens[g]? = some gs ∧ GoesS (model G.P G.w) G.A (EndOk G a go its xt H (s.setGen g .running)) gs (.send .none) (s.setGen g .running)
/-- it has not begun -/
def Rdy (G : GP) (a : Addr) (go : Obj) (g : Nat) (its : List (Int × Int)) (H : Hp) (s : Shared) : Prop :=
  s.heap.get? a = some go ∧ ∀ (s' : Shared) (H' : Hp) (xt : List (Addr × Obj)), (∀ b o, s.heap.get? b = some o → s'.heap.get? b = some o) → s'.gens = s.gens → (∀ b o, H b = some o → H' b = some o) → H' G.L = none → H' a = none →
    Env0 G.P G.w G.K G.mg G.base G.A G.outer s' H' → (∀ q ∈ xt, s'.heap.get? q.1 = some q.2 ∧ H' q.1 = none ∧ a < q.1 ∧ ∀ v, q.2.data ≠ .cell v) → NextOk G a go g its xt H' s'
/-- it sleeps -/
def Sleeps (G : GP) (a : Addr) (go : Obj) (g : Nat) (its : List (Int × Int)) (fp : List (Addr × Obj)) (s : Shared) : Prop :=
  (a, go) ∈ fp ∧ ∃ gs, s.gens[g]? = some gs ∧ GK.sleeps gs = true ∧ ∀ s'' H'' xt, Env0 G.P G.w G.K G.mg G.base G.A G.outer s'' H'' → (∀ p ∈ fp, s''.heap.get? p.1 = some p.2 ∧ H'' p.1 = none) → Xts G fp xt H'' s'' → GoesS (model G.P G.w) G.A (EndOk G a go its xt H'' s'') gs (.send .none) s''
section
variable {X : Cx} {pins : List (Addr × Obj)} {σ : L2.St} {H : Hp} {s : Shared} {a g : Nat} {go : Obj}
theorem inv_gens {G' : Array GenState} (I : Inv X pins σ H s) (hb : AllBare G') : Inv X pins σ H (GK.wg s G') :=
  ⟨I.ok, I.os, hb, I.base, I.loc, I.cell, I.free, I.freeC, I.pin, I.hok, I.len⟩
theorem env0_run (I : Inv X pins σ H s) (A : Around) (hA : A.frames = some X.stack) : Env0 X.prog X.w X.K X.mg X.base A X.stack (s.setGen g .running) H :=
  ⟨hA, I.env0.mod, I.env0.bs, I.env0.bsz, I.env0.funs, I.env0.frf, I.env0.hok, allBare_setGen I.bare rfl⟩
theorem bare_kill (h : AllBare s.gens) : AllBare (GK.killAll s).gens := fun y hy => by
  have hy' : y ∈ s.gens.map GK.kill := hy
  obtain ⟨x, hx, rfl⟩ := Array.mem_map.mp hy'
  have := h x hx
  cases x <;> first | exact this | rfl
/-- back from the stuck run -/
theorem Told.bare {s5 s7 s0 : Shared} (h5 : AllBare s5.gens) (h0 : AllBare s0.gens) (r : GK.Rel (GK.asleepIn s5) s7.gens s0.gens) : AllBare s7.gens := fun y hy => by
  obtain ⟨i, hi, e⟩ := Array.mem_iff_getElem.mp hy
  have e' : s7.gens[i]? = some y := by rw [Array.getElem?_eq_getElem hi, e]
  have q := r.at_ i
  unfold GK.At at q
  cases hd : GK.asleepIn s5 i with
  | some x =>
    rw [hd] at q
    rw [q.1] at e'
    cases e'
    unfold GK.asleepIn at hd
    cases h : s5.gens[i]? with
    | none => rw [h] at hd; cases hd
    | some z =>
      rw [h] at hd
      dsimp only at hd
      split at hd
      · cases hd; exact h5 _ (Array.mem_of_getElem? h)
      · cases hd
  | none =>
    rw [hd] at q
    rw [q.1] at e'
    exact h0 _ (Array.mem_of_getElem? e')

theorem objok_there {P : Program} {w : World} {h : Heap} {b : Addr} {o : HO} (x : ObjOk P w H h b o) : ∃ u, h.get? b = some u := by
  cases o with
  | lst xs => obtain ⟨_, _, _, _, e⟩ := x; exact ⟨_, e⟩
  | tup xs => obtain ⟨_, _, _, o, e, _⟩ := x; exact ⟨_, e⟩
  | dK kvs => obtain ⟨_, _, _, _, o, _, _, e, _⟩ := x; exact ⟨_, e⟩
  | dT kvs => obtain ⟨_, _, _, _, o, _, _, e, _⟩ := x; exact ⟨_, e⟩
  | set S n => obtain ⟨o, _, _, _, e, _⟩ := x; exact ⟨_, e⟩
  | ins C dx fs => obtain ⟨_, _, _, e, _⟩ := x; exact ⟨_, e⟩
  | own y => obtain ⟨_, e⟩ := x; exact ⟨_, e⟩
  | xd fs => obtain ⟨_, ⟨_, _, _, e, _⟩, _⟩ := x; exact ⟨_, e⟩
  | rng lo hi => obtain ⟨_, _, _, e⟩ := x; exact ⟨_, e⟩
  | frz ob u => obtain ⟨e, _⟩ := x; exact ⟨_, e⟩
  | tbl ps => exact ⟨_, show h.get? b = some _ from x⟩
  | met f y => exact ⟨_, show h.get? b = some _ from x⟩
  | ext φ => obtain ⟨_, e, _⟩ := x; exact e
/-- the next item -/
theorem slp_next {N : List Str} {qual : Str} {scope : Scope} {f : Addr} {cd : Value} {L : Addr} {its : List (Int × Int)} {xt : List (Addr × Obj)} {k : Nat} (hr : Room k X.A) (hgo : GObj go g) (y : Yng X pins xt L H)
    (I : Inv X pins σ H s) (hx : ∀ q ∈ xt, s.heap.get? q.1 = some q.2) (hN : NextOk (gpX X N qual scope f cd L X.A.in1) a go g its xt H s) :
    wpAny (model X.prog X.w) X.A (pyNext (.ref a)) (fun r s1 => match its with
      | [] => r = none ∧ Inv X pins σ H s1
      | (x, y) :: rest => ∃ t fp, r = some (.ref t) ∧ H t = none ∧ (∀ p ∈ fp, L ≤ p.1 ∧ ∀ q ∈ xt, p.1 ≠ q.1) ∧ Inv X (pins ++ fp) σ (upd H t (.tup [.int x, .int y])) s1 ∧ (∀ q ∈ xt, s1.heap.get? q.1 = some q.2 ∧ upd H t (.tup [.int x, .int y]) q.1 = none) ∧ Sleeps (gpX X N qual scope f cd L X.A.in1) a go g rest fp s1) Fl s := by
  obtain ⟨ea, gs, hgs, hgoes⟩ := hN
  have hgl : g < s.gens.size := (Array.getElem?_eq_some_iff.mp hgs).1
  -- what the run has done, told to the consumer
  have back : ∀ {H1 : Hp} {s1 : Shared} {gs' : GenState} {h' : Heap}, Aft (gpX X N qual scope f cd L X.A.in1) xt (s.setGen g .running) H H1 s1 → (∀ b o, H b = some o → H1 b ≠ none) → gs'.bare = true → (∀ b o, s1.heap.get? b = some o → h'.get? b = some o) →
      Inv X pins σ H1 { s1.setGen g gs' with heap := h' } := by
    intro H1 s1 gs' h' A1 hup hb hk
    have inCh : ∀ b, b ∈ (List.range' L (s.heap.objs.size - L)).filter (fun b => (H b).isNone && xt.all fun p => p.1 != b) → L ≤ b ∧ H b = none ∧ ∀ p ∈ xt, p.1 ≠ b := fun b hb => by
      obtain ⟨h1, h2⟩ := List.mem_filter.mp hb
      obtain ⟨h3, h4⟩ := Bool.and_eq_true_iff.mp h2
      exact ⟨(List.mem_range'_1.mp h1).1, Option.isNone_iff_eq_none.mp h3, fun p hp => by simpa using List.all_eq_true.mp h4 p hp⟩
    generalize hch : (List.range' L (s.heap.objs.size - L)).filter (fun b => (H b).isNone && xt.all fun p => p.1 != b) = ch at inCh
    have un : Un (frs X.stack) ch H H1 s.heap h' := by
      have lt : ∀ b o, s.heap.get? b = some o → H b = none → b ∉ ch → b < L ∨ ∃ p ∈ xt, p.1 = b := fun b o e hn hb => by
        have h1 : b < s.heap.objs.size := Heap.lt_size e
        by_cases hbl : b < L
        · exact .inl hbl
        · refine .inr (Classical.byContradiction fun hno => hb ?_)
          have h2 : L ≤ b := Nat.not_lt.mp hbl
          rw [← hch]
          refine List.mem_filter.mpr ⟨List.mem_range'_1.mpr ⟨h2, ?_⟩, Bool.and_eq_true_iff.mpr ⟨by rw [hn]; rfl, List.all_eq_true.mpr fun p hp => ?_⟩⟩
          · have h3 : L ≤ s.heap.objs.size := Nat.le_trans h2 (Nat.le_of_lt h1)
            rw [Nat.add_sub_cancel' h3]; exact h1
          · exact bne_iff_ne.mpr fun z => hno ⟨p, hp, z⟩
      have un0 : Un (frs X.stack) [] H H1 (cut s.heap L) s1.heap := A1.un
      have xk : ∀ b o, s.heap.get? b = some o → (∃ p ∈ xt, p.1 = b) → s1.heap.get? b = some o ∧ H1 b = none := fun b o e ⟨p, hp, z⟩ => by
        subst z
        have h1 := hx p hp
        rw [e] at h1; cases h1
        exact A1.kx p hp
      refine ⟨fun b o e n h1 h2 => hk _ _ ?_, fun b o e n h1 h2 => ?_, fun b o e n h2 => ?_, fun b o e h2 => ?_, un0.tups, un0.frzs, un0.tbls⟩
      · rcases lt b o e n h2 with z | z
        · exact un0.keep b o (get_cut e z) n h1 (by simp)
        · exact (xk b o e z).1
      · rcases lt b o e n h2 with z | z
        · obtain ⟨sl, z⟩ := un0.slot b o (get_cut e z) n h1 (by simp)
          exact ⟨sl, hk _ _ z⟩
        · exact ⟨o.slots, hk _ _ (xk b o e z).1⟩
      · rcases lt b o e n h2 with z | z
        · exact un0.free b o (get_cut e z) n (by simp)
        · exact (xk b o e z).2
      · by_cases n : H b = none
        · rcases lt b o e n h2 with z | z
          · obtain ⟨o', z⟩ := un0.there b o (get_cut e z) (by simp)
            exact ⟨o', hk _ _ z⟩
          · exact ⟨o, hk _ _ (xk b o e z).1⟩
        · obtain ⟨u, hu⟩ : ∃ u, H b = some u := Option.ne_none_iff_exists'.mp n
          obtain ⟨u', hu'⟩ : ∃ u', H1 b = some u' := Option.ne_none_iff_exists'.mp (hup b u hu)
          obtain ⟨v, hv⟩ := objok_there (A1.hok b u' hu')
          exact ⟨v, hk _ _ hv⟩
    have hos : s1.os = s.os := A1.os
    have J := I.call (g' := (s1.setGen g gs').gens) (t' := s1.toks) (d' := s1.drawn) (ch := ch) un (A1.hok.kept hk) (allBare_setGen A1.bare hb) fun b hb => by
      obtain ⟨h1, h2, h3⟩ := inCh b hb
      exact y.ch b h1 h2 h3
    obtain ⟨h1, g1, t1, d1, o1⟩ := s1
    have hos' : o1 = s.os := hos
    subst hos'
    exact J
  refine next_genS (F := EndOk (gpX X N qual scope f cd L X.A.in1) a go its xt H (s.setGen g .running)) hr.hd I.nolimit (by have := hr.dp; omega) (hgo.isGen ea) hgs hgoes (fun e s₁ h => h.quiet) (fun v gd l k c p fs s₁ hF hsz => ?_) (fun r s₁ hF => ?_)
  · cases its with
    | nil => exact absurd hF.1 (by intro z; cases z)
    | cons it rest =>
      obtain ⟨xx, yy⟩ := it
      obtain ⟨t, l', k', c', p', fs', fp, e1, hgd, ht, A1, ⟨hmem, hfp⟩, hk⟩ := hF
      cases e1
      have hbare : (End.susp (.ref t) false l k c p fs).genState.bare = true := by
        show (!(false || fs.any Frame.guarded)) = true
        rw [hgd]; rfl
      have hup : ∀ b o, H b = some o → upd H t (.tup [.int xx, .int yy]) b ≠ none := fun b o e => by
        by_cases hb : b = t
        · subst hb; rw [ht] at e; cases e
        · rw [upd_ne hb, e]; simp
      have J := back A1 hup hbare (h' := s₁.heap) fun _ _ z => z
      refine ⟨t, fp, rfl, ht, fun p hp => ⟨(hfp p hp).2.2.1, (hfp p hp).2.2.2.2⟩, J.pins_of fun q hq => ?_, A1.kx, hmem, _, setGen_at (Nat.lt_of_lt_of_le hgl hsz), ?_, hk⟩
      · rcases List.mem_append.mp hq with hq | hq
        · exact J.pin q (List.mem_append_right _ hq)
        · obtain ⟨h1, h2, h3, h4, h5⟩ := hfp q hq
          have hqt : q.1 ≠ t := fun e => by rw [e, upd_same] at h2; cases h2
          rw [upd_ne hqt] at h2
          obtain ⟨_, z2, _⟩ := y.ch q.1 h3 h2 fun p hp e => h5 p hp e.symm
          exact ⟨h1, by rw [upd_ne hqt]; exact h2, z2, fun z => absurd (y.fr _ z) (Nat.not_lt.mpr h3), h4⟩
      · rfl
  · cases its with
    | nil =>
      obtain ⟨e1, A1⟩ := hF
      cases e1
      exact ⟨.inl rfl, fun h' hk => ⟨rfl, back A1 (fun b o e => by rw [e]; simp) rfl hk⟩⟩
    | cons it rest =>
      obtain ⟨xx, yy⟩ := it
      obtain ⟨t, l', k', c', p', fs', fp, e1, _⟩ := hF
      cases e1
end
end SG
set_option Elab.async false
set_option linter.all false
set_option maxRecDepth 100000
set_option maxHeartbeats 2000000
/-! G7: for x in g(): the rule. -/
namespace SG
open PySem PySem.Spec PyProof.Rows L2
open Sem (wp)

abbrev TGI := L2.St → Hp → (List (Int × Int) → Hp → Prop) → Prop
/-- an expression whose value is a generator of places that has not begun -/
structure PGI (X : Cx) (A : Around) (e : Expr) (wi : TGI) : Prop where
  run : ∀ (pins : List (Addr × Obj)) (s : Shared) (σ : L2.St) (H : Hp) (R : List (Int × Int) → Hp → Prop), Inv X pins σ H s → wi σ H R → wpAny (model X.prog X.w) X.A (eval e X.env)
    (fun v s1 => ∃ (N : List Str) (qual : Str) (scope : Scope) (f : Addr) (cd : Value) (L a g : Nat) (go : Obj) (its : List (Int × Int)) (H1 : Hp), v = .ref a ∧ Inv X pins σ H1 s1 ∧ GObj go g ∧ (∀ H', Yng X pins [] L H') ∧ L < a ∧ (∀ b, L ≤ b → H1 b = none) ∧ Rdy (gpX X N qual scope f cd L A) a go g its H1 s1 ∧ R its H1) X.xe s
def tForG (wi : TGI) (g : TG) (tb : TS) : TS := fun D σ H => wi σ H fun its H1 => ∃ W : List (Int × Int) → L2.St → Hp → Prop, W its σ H1 ∧ (∀ σ H, W [] σ H → D.nx σ H) ∧
  ∀ x y r σ H, W ((x, y) :: r) σ H → ∀ t, H t = none → g (.ref t) σ (upd H t (.tup [.int x, .int y])) fun σ2 H2 => tb { D with nx := W r, ct := W r, bk := D.nx } σ2 H2
section
variable {X : Cx} {tg : Expr}
/-- a word about the run with the sleepers stuck -/
theorem told_inv {pins : List (Addr × Obj)} {s5 s7 : Shared} {Q : L2.St → Hp → Prop} (hb : AllBare s5.gens) (h : GK.Told (GK.asleepIn s5) (fun s' => ∃ σ' H', Inv X pins σ' H' s' ∧ Q σ' H') s7) : ∃ σ' H', Inv X pins σ' H' s7 ∧ Q σ' H' := by
  obtain ⟨s0, ⟨σ', H', I, q⟩, r, e⟩ := h
  refine ⟨σ', H', ?_, q⟩
  rw [e]
  exact inv_gens I (Told.bare hb I.bare r)
theorem told_sp {pins : List (Addr × Obj)} {s5 s7 : Shared} {D : Ends} {f : Flow} (hb : AllBare s5.gens) (h : GK.Told (GK.asleepIn s5) (SP X pins D f) s7) : SP X pins D f s7 := by
  cases f with
  | next => exact told_inv hb h
  | brk => exact told_inv hb h
  | cont => exact told_inv hb h
  | ret u =>
    obtain ⟨s0, ⟨v, σ', H', I, rv, q⟩, r, e⟩ := h
    refine ⟨v, σ', H', ?_, rv, q⟩
    rw [e]
    exact inv_gens I (Told.bare hb I.bare r)
/-- woken again from where it sleeps -/
theorem next_again {N : List Str} {qual : Str} {scope : Scope} {f : Addr} {cd : Value} {L a g : Nat} {go : Obj} {its : List (Int × Int)} {A : Around} {pins fp xt : List (Addr × Obj)} {σ : L2.St} {H : Hp} {s s1 : Shared} (hA : A.frames = some X.stack)
    (hS : Sleeps (gpX X N qual scope f cd L A) a go g its fp s1) (hg : ∀ gs, s1.gens[g]? = some gs → GK.sleeps gs = true → s.gens[g]? = some gs) (I : Inv X (pins ++ fp) σ H s) (hx : Xts (gpX X N qual scope f cd L A) fp xt H s) : NextOk (gpX X N qual scope f cd L A) a go g its xt H s := by
  obtain ⟨hm, gs, hgs, hsl, hk⟩ := hS
  have hp : ∀ p ∈ fp, s.heap.get? p.1 = some p.2 ∧ H p.1 = none := fun p hp => by
    obtain ⟨h1, h2, _⟩ := I.pin p (List.mem_append_right _ (List.mem_append_right _ hp))
    exact ⟨h1, h2⟩
  exact ⟨(hp _ hm).1, gs, hg gs hgs hsl, hk _ H xt (env0_run I A hA) hp hx⟩
theorem ps_forG {iter : Expr} {body : List Stmt} {wi : TGI} {g : TG} {tb : TS} {pos : Pos} {k : Nat} (hx : X.xe = fun _ _ => False) (hr : Room k X.A) (hi : PGI X X.A.in1 iter wi) (hg : PG X tg g) (hb : PSs X body tb)
    (hs : ∀ x, foldedSetIterable iter X.env x = pure x := by intro _; rfl) : PS X (.For tg iter body [] pos) (tForG wi g tb) := by
  refine ⟨fun pins s σ H D I h => ?_⟩
  have nox : ∀ {e : Value} {s' : Shared} {P : Prop}, X.xe e s' → P := fun {e s' P} z => by rw [hx] at z; exact z.elim
  refine wpAny_For (thn (hi.run pins s σ H _ I h) fun v s1 h1 => ?_) hs
  obtain ⟨N, qual, scope, f, cd, L, a, gn, go, its, H1, ev, I1, hgo, hy, hLa, hun, hR, W, w0, wend, wstep⟩ := h1
  subst ev
  refine wpAny_pyIter_gen (hgo.isGen hR.1) ?_
  have fr1 : X.A.in1.frames = some X.stack := I.ok.frames
  have e01 : Env0 X.prog X.w X.K X.mg X.base X.A.in1 X.stack s1 H1 := ⟨fr1, I1.env0.mod, I1.env0.bs, I1.env0.bsz, I1.env0.funs, I1.env0.frf, I1.env0.hok, I1.bare⟩
  have hN := hR.2 s1 H1 [] (fun _ _ z => z) rfl (fun _ _ z => z) (hun _ (Nat.le_refl _)) (hun _ (Nat.le_of_lt hLa)) e01 (fun q hq => by cases hq)
  refine codeAny_forLoop_any (fun n s' => ∃ its σ' H', its.length = n ∧ Inv X pins σ' H' s' ∧ NextOk (gpX X N qual scope f cd L X.A.in1) a go gn its [] H' s' ∧ W its σ' H') ?_ its.length ⟨its, σ, H1, rfl, I1, hN, w0⟩
  rintro n s3 ⟨its, σ3, H3, rfl, I3, N3, w3⟩
  refine wpAny_mono (slp_next hr hgo (hy _) I3 (fun q hq => by cases hq) N3) (fun r s4 h4 => ?_) fun _ _ z => z.elim
  cases its with
  | nil =>
    obtain ⟨hr, I4⟩ := h4
    subst hr
    exact wpAny_execs_nil ⟨σ3, H3, I4, wend _ _ w3⟩
  | cons it rest =>
    obtain ⟨x, y⟩ := it
    obtain ⟨t, fp, er, ht, hfL, I4, _, S4⟩ := h4
    subst er
    have ea : s4.heap.get? a = some go := (I4.pin (a, go) (List.mem_append_right _ (List.mem_append_right _ S4.1))).1
    obtain ⟨nm, qn, hd⟩ := hgo.dat
    refine go_of ea hgo.cls hd (by decide) ?_
    have J4 := inv_gens I4 (bare_kill I4.bare)
    refine wpAny_mono (GK.wpAny_kill (hg.run _ (GK.killAll s4) σ3 _ (.ref t) (.ref t) _ J4 rfl (wstep x y rest σ3 H3 w3 t ht))) (fun _ s5 h5 => ?_) (fun _ _ z => ?_)
    · have kp5 : ∀ gs, s4.gens[gn]? = some gs → GK.sleeps gs = true → s5.gens[gn]? = some gs := fun gs h1 h2 => h5.keeps h1 h2
      obtain ⟨σ5, H5, I5, q5⟩ := told_inv I4.bare h5
      have J5 := inv_gens I5 (bare_kill I5.bare)
      refine wpAny_mono (GK.wpAny_kill (hb.run _ (GK.killAll s5) σ5 H5 _ J5 q5)) (fun fl s7 h7 => ?_) (fun _ _ z => ?_)
      · have kp7 : ∀ gs, s4.gens[gn]? = some gs → GK.sleeps gs = true → s7.gens[gn]? = some gs := fun gs h1 h2 => h7.keeps (kp5 gs h1 h2) h2
        have q7 := told_sp I5.bare h7
        have again : ∀ {σ7 : L2.St} {H7 : Hp}, Inv X (pins ++ fp) σ7 H7 s7 → W rest σ7 H7 → ∃ m, m < ((x, y) :: rest).length ∧ ∃ its σ' H', its.length = m ∧ Inv X pins σ' H' s7 ∧ NextOk (gpX X N qual scope f cd L X.A.in1) a go gn its [] H' s7 ∧ W its σ' H' :=
          fun {σ7 H7} I7 w7 => ⟨rest.length, by simp, rest, σ7, H7, rfl, I7.unpinned, next_again fr1 S4 kp7 I7 (fun q hq => by cases hq), w7⟩
        cases fl with
        | next => obtain ⟨σ7, H7, I7, n7⟩ := q7; exact again I7 n7
        | cont => obtain ⟨σ7, H7, I7, n7⟩ := q7; exact again I7 n7
        | brk => obtain ⟨σ7, H7, I7, q7⟩ := q7; exact ⟨σ7, H7, I7.unpinned, q7⟩
        | ret v => obtain ⟨x7, σ7, H7, I7, r7, q7⟩ := q7; exact ⟨x7, σ7, H7, I7.unpinned, r7, q7⟩
      · obtain ⟨_, z, _⟩ := z
        exact nox z
    · obtain ⟨_, z, _⟩ := z
      exact nox z

/-- [elt for tg in g()]: D the new list; W by the items to come and the list so far -/
def tLcG (wi : TGI) (g : TG) (te : TE) (vs : List Nat) : TE := fun σ H Q => wi σ H fun its H1 => ∀ D, H1 D = none → ∃ W : List (Int × Int) → List V → Hp → Prop, W its [] (upd H1 D (.lst [])) ∧ (∀ r acc H, W r acc H → H D = some (.lst acc)) ∧ (∀ acc H, W [] acc H → Q (.ref D) H) ∧
  ∀ x y r acc H, W ((x, y) :: r) acc H → ∀ t, H t = none → g (.ref t) (wipe σ vs) (upd H t (.tup [.int x, .int y])) fun σ2 H2 => wipe σ2 vs = wipe σ vs ∧ te σ2 H2 fun z H4 => H4 D = some (.lst acc) ∧ acc.length < sizeLine ∧ W r (acc ++ [z]) (upd H4 D (.lst (acc ++ [z])))
theorem cellsFrom_noc : ∀ (l : List (Str × NameKind)) (n : Nat) (acc : List (Str × Addr)), (∀ y ∈ l, y.2 ≠ .cell) → PySem.cellsFrom n l acc = acc
  | [], _, _, _ => rfl
  | (x, k) :: r, n, acc, h => by
    have h1 : k ≠ .cell := h (x, k) List.mem_cons_self
    have h2 : (k == NameKind.cell) = false := by cases k <;> first | rfl | exact absurd rfl h1
    show (if (k == NameKind.cell) = true then _ else _) = _
    rw [h2, if_neg Bool.false_ne_true]
    exact cellsFrom_noc r n acc fun y hy => h y (List.mem_cons_of_mem _ hy)
theorem lcG_core {pins : List (Addr × Obj)} {s : Shared} {σ : L2.St} {H : Hp} {Q : VK} {elt iter : Expr} {scope : Scope} {own : List (Str × Nat)} {pos pos' : Pos} {wi : TGI} {g : TG} {te : TE} {k : Nat} {use : Option (Value → Sem Unit)} {Qf : Value → Shared → Prop}
    (hx : X.xe = fun _ _ => False) (hr : Room k X.A) (hN : X.N.Nodup) (I : Inv X pins σ H s) (hi : PGI X X.A.in1 iter wi) (ok : BlkOk X.N X.env.scope scope own) (noc : ∀ y ∈ scope.names, y.2 ≠ .cell)
    (hg : ∀ (s : Shared) (H : Hp) (C : Addr) (cl : List (Str × Addr)) (fp : List Addr), PG (X.blk s H scope (compEnvC scope cl C X.env) fp) tg g)
    (he : ∀ (s : Shared) (H : Hp) (C : Addr) (cl : List (Str × Addr)) (fp : List Addr), PE (X.blk s H scope (compEnvC scope cl C X.env) fp) elt te) (hs : ∀ x, foldedSetIterable iter X.env x = pure x)
    (h : tLcG wi g te (own.map (·.2)) σ H Q)
    (hRR : ∀ D C s' m H', Inv X pins σ H' s' → Q (.ref D) H' → s'.heap.Ns C m → FpOk X pins H' C → compPost (model X.prog X.w) X.A X.xe use Qf (.ref D) C (.ok .next) s') :
    wpAny (model X.prog X.w) X.A (comprehension (.ListComp elt [⟨tg, iter, [], 0⟩] scope pos) scope X.env pos' (newList []) false (eval iter X.env) use) Qf X.xe s := by
  have hfree : ∀ y ∈ scope.names, y.2 = .free → ∃ c, X.env.cells.lookup y.1 = some c := fun y hy e => by
    rcases ok.free y hy e with k | k
    · exact I.ok.has _ (.inl k)
    · exact I.ok.has _ (.inr k)
  have nox : ∀ {e : Value} {s' : Shared} {P : Prop}, X.xe e s' → P := fun {e s' P} z => by rw [hx] at z; exact z.elim
  refine wpAny_comprehension_free (use := use) rfl hs (closure_ok hfree) ok.kind (fun y hy e => by rw [ok.uniq y hy, e])
    (thn (hi.run pins s σ H _ I h) fun xv s2 hx2 => ?_)
  obtain ⟨N, qual, scp, f, cd, L, a, gn, go, its, H2, ev, I2, hgo, hy, hLa, hun, hR, q⟩ := hx2
  subst ev
  refine wpAny_pyIter_gen (hgo.isGen hR.1) ?_
  refine wpAny_newObj_type (newEnv_comp ?_) (by show 0 ≤ sizeLine; decide)
  generalize hD : s2.heap.objs.size = D
  have hDn : H2 D = none := I2.hok.fresh (Nat.le_of_eq hD)
  obtain ⟨W, w0, wD, wend, wstep⟩ := q D hDn
  generalize hs3 : ({ s2 with heap := s2.heap.push { cls := .type "list", data := .seq ([] : List Value).toArray } } : Shared) = s3
  have I3 : Inv X pins σ (upd H2 D (.lst [])) s3 := by
    rw [← hs3]
    refine I2.laid (t' := s2.toks) (fun b o e => Heap.get?_push_of_some _ e) (Nat.le_of_eq hD) ⟨Nat.zero_le _, [], 0, .nil, ?_⟩
    rw [← hD]
    exact Heap.get?_push_size _ rfl
  have h3 : s3.heap = s2.heap.push { cls := .type "list", data := .seq ([] : List Value).toArray } := by rw [← hs3]
  have g3 : s3.gens = s2.gens := by rw [← hs3]
  have sz3 : s3.heap.objs.size = D + 1 := by rw [h3, Heap.size_push, hD]
  have hLD : L < D := by rw [← hD]; exact Nat.lt_trans hLa (Heap.lt_size hR.1)
  have haD : a < D := by rw [← hD]; exact Heap.lt_size hR.1
  -- the records that may turn
  generalize hfp : List.range' L (D - L) = fp
  have inFp : ∀ b, b ∈ fp ↔ L ≤ b ∧ b < D := fun b => by
    rw [← hfp, List.mem_range'_1]
    constructor
    · rintro ⟨h1, h2⟩
      rw [Nat.add_sub_cancel' (Nat.le_of_lt hLD)] at h2
      exact ⟨h1, h2⟩
    · rintro ⟨h1, h2⟩
      exact ⟨h1, by rw [Nat.add_sub_cancel' (Nat.le_of_lt hLD)]; exact h2⟩
  have f3 : ∀ b ∈ fp, FpOk X pins (upd H2 D (.lst [])) b ∧ b < s3.heap.objs.size := fun b hb => by
    obtain ⟨hb1, hb2⟩ := (inFp b).mp hb
    obtain ⟨z1, z2, z3, z4⟩ := (hy H2).ch b hb1 (hun b hb1) (fun p hp => by cases hp)
    refine ⟨⟨?_, z2, fun z => absurd ((hy H2).fr b z) (Nat.not_lt.mpr hb1), z1, z3, z4⟩, by rw [sz3]; exact Nat.lt_succ_of_lt hb2⟩
    rw [upd_ne (Nat.ne_of_lt hb2)]
    exact hun b hb1
  have locLt : X.env.locals < L := Nat.not_le.mp fun z => ((hy H2).ch _ z (hun _ z) (fun p hp => by cases hp)).2.1 rfl
  have frLt : ∀ b ∈ frs X.stack, b < L := fun b hb => by
    rcases List.mem_cons.mp (I2.stkSub b hb) with z | z
    · rw [z]; exact locLt
    · exact (hy H2).fr b z
  have cellsLt0 : ∀ x c, X.env.cells.lookup x = some c → c < L := fun x c e => Nat.not_le.mp fun z => ((hy H2).ch c z (hun c z) (fun p hp => by cases hp)).2.2.1 x c e rfl
  have I4 := block_start I3 ok hN f3
  have pg := hg s3 (upd H2 D (.lst [])) s3.heap.objs.size (cellsFrom (s3.heap.objs.size + 1) scope.names (cloFrom X.env.cells scope.names [])) fp
  have pe := he s3 (upd H2 D (.lst [])) s3.heap.objs.size (cellsFrom (s3.heap.objs.size + 1) scope.names (cloFrom X.env.cells scope.names [])) fp
  show codeAny _ _ (.compStart (.ListComp elt [⟨tg, iter, [], 0⟩] scope pos) 0 (.ref a) (.ref D) (compEnvC scope (cellsFrom (s3.heap.objs.size + 1) scope.names (cloFrom X.env.cells scope.names [])) s3.heap.objs.size X.env)) (compPost (model X.prog X.w) X.A X.xe use Qf (.ref D) s3.heap.objs.size) { s3 with heap := pushCells (s3.heap.push { cls := .type "dict", data := .dict #[] }) scope.names }
  have cellsLt : ∀ x c, (compEnvC scope (cellsFrom (s3.heap.objs.size + 1) scope.names (cloFrom X.env.cells scope.names [])) s3.heap.objs.size X.env).cells.lookup x = some c → c < L := by
    intro x c hc
    have hc' : (cellsFrom (s3.heap.objs.size + 1) scope.names (cloFrom X.env.cells scope.names [])).lookup x = some c := hc
    rw [cellsFrom_noc _ _ _ noc] at hc'
    rcases cloFrom_mem (PySem.mem_of_lookup hc') with hm | ⟨h1, rfl⟩
    · cases hm
    · obtain ⟨c, hc⟩ := hfree _ h1 rfl
      rw [hc]
      exact cellsLt0 _ _ hc
  generalize hce : compEnvC scope (cellsFrom (s3.heap.objs.size + 1) scope.names (cloFrom X.env.cells scope.names [])) s3.heap.objs.size X.env = ce at I4 pg pe cellsLt ⊢
  have cL : ce.locals = D + 1 := by subst hce; exact sz3
  have H3L : upd H2 D (.lst []) L = none := by rw [upd_ne (Nat.ne_of_lt hLD)]; exact hun _ (Nat.le_refl _)
  have H3a : upd H2 D (.lst []) a = none := by rw [upd_ne (Nat.ne_of_lt haD)]; exact hun _ (Nat.le_of_lt hLa)
  have H23 : ∀ b o, H2 b = some o → upd H2 D (.lst []) b = some o := fun b o e => by rw [upd_ne (ne_of_none e hDn)]; exact e
  generalize hH3 : upd H2 D (.lst []) = H3 at I3 I4 pg pe w0 f3 H3L H3a H23
  generalize hs4 : ({ s3 with heap := pushCells (s3.heap.push { cls := .type "dict", data := .dict #[] }) scope.names } : Shared) = s4 at I4 ⊢
  have k4 : ∀ b o, s2.heap.get? b = some o → s4.heap.get? b = some o := fun b o e => by
    rw [← hs4]
    exact pushCells_keeps _ _ _ _ (Heap.get?_push_of_some _ (by rw [h3]; exact Heap.get?_push_of_some _ e))
  have g4 : s4.gens = s2.gens := by rw [← hs4]; exact g3
  have fr1 : X.A.in1.frames = some X.stack := I.ok.frames
  -- the block's own object
  have cobj : ∀ {σ' H' s' ps}, Inv (X.blk s3 H3 scope ce fp) ps σ' H' s' → ∃ cO, s'.heap.get? (D + 1) = some cO ∧ H' (D + 1) = none ∧ ∀ v, cO.data ≠ .cell v := fun {σ' H' s' ps} I' => by
    obtain ⟨m, ⟨o, es, ep, ho, hd, _⟩, _⟩ := I'.loc
    have ho : s'.heap.get? ce.locals = some o := ho
    have hf : H' ce.locals = none := I'.free
    rw [cL] at ho hf
    exact ⟨o, ho, hf, fun v z => by rw [hd] at z; cases z⟩
  have young : ∀ {H' : Hp} {acc : List V} {cO : Obj}, H' D = some (.lst acc) → Yng (X.blk s3 H3 scope ce fp) [] [(D + 1, cO)] L H' := fun {H' acc cO} hD' => by
    refine ⟨fun b hb hn hxt => ⟨?_, ?_, fun x c e => Nat.ne_of_lt (Nat.lt_of_lt_of_le (cellsLt x c e) hb), fun p hp => by cases hp⟩, fun b hb => frLt b hb⟩
    · show b ∈ fp ∨ s3.heap.objs.size ≤ b
      rcases Nat.lt_trichotomy b D with z | z | z
      · exact .inl ((inFp b).mpr ⟨hb, z⟩)
      · rw [z, hD'] at hn; cases hn
      · exact .inr (by rw [sz3]; exact z)
    · show b ≠ ce.locals
      rw [cL]
      exact fun z => hxt (D + 1, cO) List.mem_cons_self z.symm
  have loop : codeAny (model X.prog X.w) X.A (.compLoop (.ListComp elt [⟨tg, iter, [], 0⟩] scope pos) 0 (.ref a) (.ref D) ce) (compPost (model X.prog X.w) X.A X.xe use Qf (.ref D) s3.heap.objs.size) s4 := by
    refine compLoop_any (fun n s' => ∃ its acc H' cO, its.length = n ∧ Inv (X.blk s3 H3 scope ce fp) [] (wipe σ (own.map (·.2))) H' s' ∧ s'.heap.get? (D + 1) = some cO ∧ NextOk (gpX X N qual scp f cd L X.A.in1) a go gn its [(D + 1, cO)] H' s' ∧ W its acc H') ?_ its.length ?_
    · rintro n s5 ⟨its, acc, H5, cO, rfl, I5, eC5, N5, w5⟩
      refine thnF (slp_next (X := X.blk s3 H3 scope ce fp) hr hgo (young (wD _ _ _ w5)) I5 (fun q hq => by rw [List.mem_singleton.mp hq]; exact eC5) N5) fun r s6 h6 => ?_
      cases its with
      | nil =>
        obtain ⟨hr6, I6⟩ := h6
        subst hr6
        have I7 : Inv X pins σ H5 s6 := I3.call' (ch := fp) I6.os I6.base I6.hok I6.bare fun b hb => ⟨(f3 b hb).1.2.2.2.1, (f3 b hb).1.2.1, (f3 b hb).1.2.2.2.2.1, (f3 b hb).1.2.2.2.2.2⟩
        have nC : H5 s3.heap.objs.size = none := by
          have z : H5 ce.locals = none := I6.free
          rw [cL, ← sz3] at z
          exact z
        obtain ⟨m, hn, _⟩ := I6.loc
        have hn : s6.heap.Ns ce.locals m := hn
        rw [cL, ← sz3] at hn
        exact hRR D s3.heap.objs.size s6 m H5 I7 (wend _ _ w5) hn (I3.fpOk (Nat.le_refl _) nC)
      | cons it rest =>
        obtain ⟨x, y⟩ := it
        obtain ⟨t, fpg, er, ht, hfL, I6, _, S6⟩ := h6
        subst er
        have ea : s6.heap.get? a = some go := (I6.pin (a, go) (List.mem_append_right _ (List.mem_append_right _ S6.1))).1
        obtain ⟨nm, qn, hd⟩ := hgo.dat
        refine go_of ea hgo.cls hd (by decide) ?_
        have J6 := inv_gens I6 (bare_kill I6.bare)
        refine thnF (wpAny_mono (GK.wpAny_kill (pg.run _ (GK.killAll s6) _ _ (.ref t) (.ref t) _ J6 rfl (wstep x y rest acc H5 w5 t ht))) (fun _ _ z => z) fun _ _ z => (by obtain ⟨_, z, _⟩ := z; exact z)) fun _ s8 h8 => ?_
        have kp8 : ∀ gs, s6.gens[gn]? = some gs → GK.sleeps gs = true → s8.gens[gn]? = some gs := fun gs h1 h2 => h8.keeps h1 h2
        obtain ⟨σ8, H8, I8, hw8, q8⟩ := told_inv I6.bare h8
        refine wpAny_tests_nil ?_
        rw [if_pos rfl]
        have J8 := inv_gens I8 (bare_kill I8.bare)
        refine thnF (wpAny_mono (GK.wpAny_kill (pe.run _ (GK.killAll s8) σ8 H8 _ J8 q8)) (fun _ _ z => z) fun _ _ z => (by obtain ⟨_, z, _⟩ := z; exact z)) fun z s10 h10 => ?_
        have kp10 : ∀ gs, s6.gens[gn]? = some gs → GK.sleeps gs = true → s10.gens[gn]? = some gs := fun gs h1 h2 => h10.keeps (kp8 gs h1 h2) h2
        obtain ⟨yv, H10, I10, r10, hD10, hz10, nx⟩ : ∃ yv H10, Inv (X.blk s3 H3 scope ce fp) ([] ++ fpg) σ8 H10 s10 ∧ RelV yv z ∧ H10 D = some (.lst acc) ∧ acc.length < sizeLine ∧ W rest (acc ++ [yv]) (upd H10 D (.lst (acc ++ [yv]))) := by
          obtain ⟨s0, ⟨v, H', I', rv, q⟩, rr, e⟩ := h10
          refine ⟨v, H', ?_, rv, q⟩
          rw [e]
          exact inv_gens I' (Told.bare I8.bare I'.bare rr)
        have J10 := inv_gens I10 (bare_kill I10.bare)
        refine thnF (wpAny_mono (GK.wpAny_kill (app_ok (X := X.blk s3 H3 scope ce fp) (E := fun _ _ => False) (Q := fun _ s' => ∃ σ' H', Inv (X.blk s3 H3 scope ce fp) ([] ++ fpg) σ' H' s' ∧ σ' = σ8 ∧ H' = upd H10 D (.lst (acc ++ [yv]))) J10 hD10 hz10 r10 fun s11 I11 => ⟨_, _, I11, rfl, rfl⟩)) (fun _ _ z => z) fun _ _ z => (by obtain ⟨_, z, _⟩ := z; exact z)) fun _ s11 h11 => ?_
        have kp11 : ∀ gs, s6.gens[gn]? = some gs → GK.sleeps gs = true → s11.gens[gn]? = some gs := fun gs h1 h2 => h11.keeps (kp10 gs h1 h2) h2
        obtain ⟨σ11, H11, I11, e11, eH11⟩ := told_inv I10.bare h11
        subst e11 eH11
        obtain ⟨cO', eC', nC', dC'⟩ := cobj I11
        have hl : (wipe σ (own.map (·.2))).length = σ11.length := by rw [← hw8, wipe_length]
        refine ⟨rest.length, by simp, rest, acc ++ [yv], _, cO', rfl, (I11.unpinned (pins := [])).weak hl (fun j v e => ?_), eC', ?_, nx⟩
        · rw [← hw8] at e
          exact (wipe_some e).1
        · refine next_again (X := X.blk s3 H3 scope ce fp) fr1 S6 kp11 I11 fun q hq => ?_
          rw [List.mem_singleton.mp hq]
          exact ⟨eC', nC', Nat.lt_trans hLD (Nat.lt_succ_self _), dC', fun p hp e => (hfL p hp).2 (D + 1, cO) List.mem_cons_self e⟩
    · obtain ⟨cO, eC, nC, dC⟩ := cobj I4
      refine ⟨its, [], H3, cO, rfl, I4, eC, ?_, w0⟩
      have e04 : Env0 X.prog X.w X.K X.mg X.base X.A.in1 X.stack s4 H3 := ⟨fr1, I4.env0.mod, I4.env0.bs, I4.env0.bsz, I4.env0.funs, I4.env0.frf, I4.env0.hok, I4.bare⟩
      exact hR.2 s4 H3 [(D + 1, cO)] k4 g4 H23 H3L H3a e04 fun q hq => by
        rw [List.mem_singleton.mp hq]
        exact ⟨eC, nC, Nat.lt_trans haD (Nat.lt_succ_self _), dC⟩
  exact codeAny_compStart_list loop (wpAny_pyIter_gen (hgo.isGen (k4 _ _ hR.1)) loop)
theorem pe_lcG {elt iter : Expr} {scope : Scope} {own : List (Str × Nat)} {pos : Pos} {wi : TGI} {g : TG} {te : TE} {k : Nat} (hx : X.xe = fun _ _ => False) (hr : Room k X.A) (hN : X.N.Nodup) (hi : PGI X X.A.in1 iter wi) (ok : BlkOk X.N X.env.scope scope own) (noc : ∀ y ∈ scope.names, y.2 ≠ .cell)
    (hg : ∀ (s : Shared) (H : Hp) (C : Addr) (cl : List (Str × Addr)) (fp : List Addr), PG (X.blk s H scope (compEnvC scope cl C X.env) fp) tg g)
    (he : ∀ (s : Shared) (H : Hp) (C : Addr) (cl : List (Str × Addr)) (fp : List Addr), PE (X.blk s H scope (compEnvC scope cl C X.env) fp) elt te) (hs : ∀ x, foldedSetIterable iter X.env x = pure x := by intro _; rfl) :
    PE X (.ListComp elt [⟨tg, iter, [], 0⟩] scope pos) (tLcG wi g te (own.map (·.2))) := by
  refine ⟨fun pins s σ H Q I h => ?_⟩
  rw [eval_ListComp]
  refine lcG_core hx hr hN I hi ok noc hg he hs h fun D C s' m H' I' q hn f => ⟨m, hn, fun h'' sb => ?_⟩
  obtain ⟨f0, f1, f2, f3, f4, f5⟩ := f
  exact ⟨.ref D, H', I'.turned (t' := s'.toks) (fun b o hb e => (sb.2 b hb).trans e) f0 f1 f3 f4 f5, rfl, q⟩
theorem ps_setLcG {i : Nat} {y : Str} {py : Pos} {elt iter : Expr} {scope : Scope} {own : List (Str × Nat)} {pos spos : Pos} {wi : TGI} {g : TG} {te : TE} {k : Nat} (hx : X.xe = fun _ _ => False) (hr : Room k X.A) (hN : X.N.Nodup) (hy : X.N[i]? = some y) (hyl : X.env.scope.names.lookup y = some .local)
    (hsw : swapsWith (.ListComp elt [⟨tg, iter, [], 0⟩] scope pos) (some (.Name y py)) spos.line X.env = pure true) (hi : PGI X X.A.in1 iter wi) (ok : BlkOk X.N X.env.scope scope own) (noc : ∀ y ∈ scope.names, y.2 ≠ .cell)
    (hg : ∀ (s : Shared) (H : Hp) (C : Addr) (cl : List (Str × Addr)) (fp : List Addr), PG (X.blk s H scope (compEnvC scope cl C X.env) fp) tg g)
    (he : ∀ (s : Shared) (H : Hp) (C : Addr) (cl : List (Str × Addr)) (fp : List Addr), PE (X.blk s H scope (compEnvC scope cl C X.env) fp) elt te) (hs : ∀ x, foldedSetIterable iter X.env x = pure x := by intro _; rfl) :
    PS X (.Assign [.Name y py] (.ListComp elt [⟨tg, iter, [], 0⟩] scope pos) spos) (tAsg (tLcG wi g te (own.map (·.2))) (gName i)) := by
  refine ⟨fun pins s σ H D I h => ?_⟩
  rw [exec_Assign_Name_used _ _ _ _ hsw]
  refine wpAny_bind (wpAny_standAt (wpAny_bind ?_))
  show wpAny _ X.A (do let _ ← comprehension (.ListComp elt [⟨tg, iter, [], 0⟩] scope pos) scope X.env (firstIterPos [⟨tg, iter, [], 0⟩] pos) (newList []) false (eval iter X.env) (some (assign (.Name y py) X.env))) _ _ s
  have h : tLcG wi g te (own.map (·.2)) σ H (fun x H1 => gName i x σ H1 D.nx) := h
  refine wpAny_bind (thn (lcG_core (Qf := fun _ s' => SP X pins D .next s') hx hr hN I hi ok noc hg he hs h fun L C s' m H' I' q hn f => ?_) fun _ s' hq => wpAny_pure (wpAny_pure hq))
  show wpAny _ _ (assign (.Name y py) X.env (.ref L)) _ _ _
  refine wpAny_assign_Name (store_ok2 (v := V.ref L) I' hN hy (.inl hyl) rfl (fun s2 I2 ⟨a, sb, ha⟩ => ?_) (.inr hyl))
  obtain ⟨f0, f1, f2, f3, f4, f5⟩ := f
  have haC : C ≠ a := by
    rcases ha with z | z
    · rw [z]; exact f1
    · exact fun e => f4 y a z e.symm
  refine ⟨m, hn.sameBut sb haC, fun h3 sb3 => ?_⟩
  exact ⟨_, H', I2.turned (t' := s2.toks) (fun b o hb e => (sb3.2 b hb).trans e) f0 f1 f3 f4 f5, q⟩
end
end SG
set_option Elab.async false
set_option linter.all false
set_option maxRecDepth 100000
set_option maxHeartbeats 2000000
/-! G8: o.cell() -/
namespace SG
open PySem PySem.Spec PyProof.Rows L2
open Sem (wp)
section
variable {X : Cx}
/-- the places of the cell of o, a generator -/
def tCellG (C : Addr) (m : Str) (t : TS) (N : List Str) (ia ic : Nat) (ta : TE) : TGI := fun σ H R => ta σ H fun x H1 => ∃ (b dx : Addr) (fs : List (Str × V)) (n c : Nat), x = .ref b ∧ H1 b = some (.ins C dx fs) ∧ fs.lookup m = none ∧ (n : Int) < 2 ^ 62 ∧ (c : Int) < 2 ^ 62 ∧
  (∀ H2, (∀ b o, H1 b = some o → H2 b = some o) → t { nx := fun σ' H' => σ'[ia]? = some (some (.int n)) ∧ σ'[ic]? = some (some (.int c)) ∧ H' = H2, rt := fun _ _ => False } (start N [.ref b]) H2) ∧ R (rowsFrom n c 0) H1
theorem pgi_cell {k : Nat} {o : Expr} {ta : TE} {C f : Addr} {m name qual : Str} {params : Arguments} {scope : Scope} {dV kV doc pm cdv ct oc : Value} {an od : Option Addr} {osl : Array (Option Value)} {N : List Str} {sf : Str} {apos pos' : Pos}
    {st : Stmt} {t : TS} {ty ity tx itx e : Expr} {yp pos px py : Pos} {ia ic iy ix : Nat} {pl : Sem Bool}
    (hr : Room k X.A) (ho : PE X o ta) (hc : Cls X.K C) (hm : Meth X.K C m f)
    (lk : X.K.lookup f = some ⟨oc, od, .func (PySem.W.fnOf name qual params [st, .For ty ity [.For tx itx [.Expr (.Yield (some e) yp) pos] [] px] [] py] scope dV kV doc pm an cdv ct), osl⟩) (hcd : PySem.W.codeIn X.K cdv qual = true)
    (hb : Binds X.K (PySem.W.fnOf name qual params [st, .For ty ity [.For tx itx [.Expr (.Yield (some e) yp) pos] [] px] [] py] scope dV kV doc pm an cdv ct) [sf] []) (S : GScope N [sf] scope) (noc : ∀ y ∈ scope.names, y.2 ≠ .cell ∧ y.2 ≠ .free)
    (hS : ∀ L s₀ H, PS ((gpX X N qual scope f cdv L X.A.in1).cx s₀ H) st t) (gX : ∀ L s₀ H, PG ((gpX X N qual scope f cdv L X.A.in1).cx s₀ H) tx (gName ix)) (gY : ∀ L s₀ H, PG ((gpX X N qual scope f cdv L X.A.in1).cx s₀ H) ty (gName iy))
    (hX : ∀ L s₀ H, PI ((gpX X N qual scope f cdv L X.A.in1).cx s₀ H) tx itx (iRng1 (tCons (tVar ia) tNil))) (hY : ∀ L s₀ H, PI ((gpX X N qual scope f cdv L X.A.in1).cx s₀ H) ty ity (iRng1 (tCons (tVar ic) tNil)))
    (hE : ∀ L s₀ H, PE ((gpX X N qual scope f cdv L X.A.in1).cx s₀ H) e (tTup (tCons (tVar ix) (tCons (tVar iy) tNil)))) (hne : iy ≠ ix) (hna : ia ≠ ix) (hnb : ia ≠ iy)
    (hi : ∀ L, interactive (gpX X N qual scope f cdv L X.A.in1).env = false) (hfold : ∀ L x, foldedSetIterable itx (gpX X N qual scope f cdv L X.A.in1).env x = pure x) (hfold2 : ∀ L x, foldedSetIterable ity (gpX X N qual scope f cdv L X.A.in1).env x = pure x) (hNl : ia < N.length ∧ iy < N.length ∧ ix < N.length)
    (ht : eval (.Call (.Attribute o m apos) [] [] pos') X.env = (do
      let ov ← eval o X.env
      standAt apos.atName
      let (f, first) ← holding [ov] (getMethod ov m pl)
      callWith pos' f first (backTo pos' (starEach [] X.env)) (backToKw pos' (keywordEach [] X.env))) := by rfl) :
    PGI X X.A.in1 (.Call (.Attribute o m apos) [] [] pos') (tCellG C m t N ia ic ta) := by
  refine ⟨fun pins s σ H R I h => ?_⟩
  refine PySem.W.methodCall_KW (pl := pl) (thn (ho.run pins s σ H _ I h) fun u s1 ⟨x, H1, I1, rx, b, dx, fs, n, c, ex, ea, l, hn, hcc, hpro, q⟩ => ?_) ht
  subst ex
  obtain rfl : u = Value.ref b := rx
  refine getmeth_ok I1 ea hc hm l ?_
  refine PySem.W.callWith_K0 (first := [.ref b]) I1.kIn hm.kp (wpAny_call ?_)
  have KX : X.K.In s1.heap := I1.kIn
  have hkind : ∀ y ∈ [sf].zip [Value.ref b], scope.names.lookup y.1 = some .local ∨ (scope.names.lookup y.1 = some .cell ∧ ((cellsFrom (s1.heap.objs.size + 1) scope.names []).lookup y.1).isSome = true) := fun ⟨n, v⟩ hy => by
    rcases S.par n (List.of_mem_zip hy).1 with q | q
    · exact .inl q
    · exact absurd rfl (noc _ (PySem.mem_of_lookup q)).1
  refine codeAny_call_generator (by have := hr.dp; omega) (KX _ _ lk) rfl S.co S.gen rfl (PySem.W.codeRec_of KX hcd) (hb s1 [Value.ref b] KX rfl _ _ _ _ ?_)
  refine wpAny_newFunctionEnv_cells S.kind hkind fun env he s2 x => ?_
  subst he
  have lim1 : s2.heap.NoLimit := I1.nolimit.keeps x.toInCall.keep
  refine ⟨lim1, ?_⟩
  have I0 : Inv (gcxOf X.prog X.w X.K X.mg X.base N qual scope f cdv X.A X.stack s1 H1 (fun _ _ _ => False) []) [] (start N [.ref b]) H1 s2 := inv_startG (vs := [.ref b]) (us := [Value.ref b]) S hr.hd I1.env0 rfl (.cons rfl .nil) x
  obtain ⟨h1, tk, es1, hk1⟩ := x.done
  have os1 : s2.os = s1.os := by rw [es1]
  have gen1 : s2.gens = s1.gens := by rw [es1]
  have lt1 : s1.heap.objs.size < s2.heap.objs.size := x.toInCall.ns.lt
  have kp1 : ∀ b o, s1.heap.get? b = some o → s2.heap.get? b = some o := x.toInCall.keep
  have main : ∀ (go : Obj) (tk2 : Nat), GObj go s2.gens.size → (s2.heap.push go).get? s2.heap.objs.size = some go → ∃ (N' : List Str) (qual' : Str) (scope' : Scope) (f' : Addr) (cd' : Value) (L a g : Nat) (go' : Obj) (its : List (Int × Int)) (H1' : Hp), Value.ref s2.heap.objs.size = .ref a ∧
      Inv X pins σ H1' { s2 with gens := s2.gens.push (.fresh (.func [st, .For ty ity [.For tx itx [.Expr (.Yield (some e) yp) pos] [] px] [] py] (envOfC qual scope s1.heap.objs.size f cdv))), toks := tk2, heap := s2.heap.push go } ∧ GObj go' g ∧ (∀ H', Yng X pins [] L H') ∧ L < a ∧ (∀ b, L ≤ b → H1' b = none) ∧
      Rdy (gpX X N' qual' scope' f' cd' L X.A.in1) a go' g its H1' { s2 with gens := s2.gens.push (.fresh (.func [st, .For ty ity [.For tx itx [.Expr (.Yield (some e) yp) pos] [] px] [] py] (envOfC qual scope s1.heap.objs.size f cdv))), toks := tk2, heap := s2.heap.push go } ∧ R its H1' := by
    intro go tk2 hgo hpu
    have kp3 : ∀ b o, s1.heap.get? b = some o → (s2.heap.push go).get? b = some o := fun b o e => Heap.get?_push_of_some _ (kp1 b o e)
    refine ⟨N, qual, scope, f, cdv, s1.heap.objs.size, s2.heap.objs.size, s2.gens.size, go, rowsFrom n c 0, H1, rfl, I1.call' (ch := []) os1 (Un.kept kp3) (I1.hok.kept kp3) (AllBare.push (by rw [gen1]; exact I1.bare) rfl) (fun b z => by simp at z), hgo, fun H' => yng_of I1, lt1, fun b hb => I1.hok.fresh hb, ⟨hpu, ?_⟩, q⟩
    intro s' H' xt hk hgs hsame hL ha e0 hxt
    have hgs' : s'.gens[s2.gens.size]? = some (.fresh (.func [st, .For ty ity [.For tx itx [.Expr (.Yield (some e) yp) pos] [] px] [] py] (envOfC qual scope s1.heap.objs.size f cdv))) := by rw [hgs]; exact Array.getElem?_push_size ..
    refine ⟨hk _ _ hpu, _, hgs', rfl, ?_⟩
    have O : (gpX X N qual scope f cdv s1.heap.objs.size X.A.in1).Ok := ⟨I1.mod, S.kind, noc, hr.hd, I1.ok.frames, Nat.le_trans I1.ok.bsz I1.sz, fun b hb => by
      rcases List.mem_cons.mp (I1.stkSub b hb) with z | z
      · rw [z]; exact I1.lt
      · exact Nat.not_le.mp fun h => I1.nofs h z⟩
    have hNm : Names (gpX X N qual scope f cdv s1.heap.objs.size X.A.in1) (start N [.ref b]) s'.heap := by
      obtain ⟨m', hn, hl⟩ := I0.loc
      refine ⟨m', Heap.Ns.keeps (show s2.heap.Ns s1.heap.objs.size m' from hn) fun b o e => hk b o (Heap.get?_push_of_some _ e), fun i y v h1 h2 h3 => ?_⟩
      obtain ⟨u, r, z⟩ := hl i y v h1 h2 h3
      rcases z with ⟨_, z⟩ | ⟨_, c', e', _⟩
      · exact ⟨u, r, z⟩
      · exact (O.nocell e').elim
    have e0' : Env0 X.prog X.w X.K X.mg X.base X.A.in1 X.stack (s'.setGen s2.gens.size .running) H' := ⟨e0.frames, e0.mod, e0.bs, e0.bsz, e0.funs, e0.frf, e0.hok, allBare_setGen e0.bare rfl⟩
    have IG := wake (s := s'.setGen s2.gens.size .running) (pins := [(s2.heap.objs.size, go)] ++ xt) (σ := start N [.ref b]) O e0' hNm hL I0.len fun p hp => by
      rcases List.mem_append.mp hp with hp | hp
      · rw [List.mem_singleton.mp hp]
        exact ⟨hk _ _ hpu, ha, lt1, hgo.nocell⟩
      · obtain ⟨h1, h2, h3, h4⟩ := hxt p hp
        exact ⟨h1, h2, Nat.lt_trans lt1 h3, h4⟩
    have hLs : s1.heap.objs.size ≤ (s'.setGen s2.gens.size .running).heap.objs.size := Nat.le_of_lt (Nat.lt_trans lt1 (Heap.lt_size (hk _ _ hpu)))
    exact gen_run (s := s'.setGen s2.gens.size .running) O (hS _) (gX _) (gY _) (hX _) (hY _) (hE _) hne hna hnb hn hcc S.co (hi _) (hfold _) (hfold2 _) lt1 hNl hLs (fun q hq => (hxt q hq).2.2.1) IG (hpro H' hsame)
  have key := main { cls := .type "generator", data := .fields #[.int s2.gens.size 0, .str name s2.toks, .str qual (s2.toks + 1)] } (s2.toks + 1 + 1) ⟨rfl, ⟨_, _, rfl⟩, rfl⟩ (Heap.get?_push_size _ rfl)
  exact key
end
end SG
set_option Elab.async false
set_option linter.all false
set_option maxRecDepth 100000
set_option maxHeartbeats 2000000
/-! R2: the same rules where the class comes with the reading; {k: v} with a tuple as key. -/
namespace Cp
open PySem PySem.Spec PyProof.Rows L2

section
variable {X : Cx} {k : Nat} {f g p : Addr} {sp : Sp} {x m : Str} {pn pos apos : Pos} {e o : Expr} {es : List Expr} {ta te : TE} {t : TA} {Ok : Addr → Prop}
def tPropA (Ok : Addr → Prop) (sp : Sp) (ta : TE) : TE := fun σ H Q => ta σ H fun x H1 => ∃ a C dx fs, x = .ref a ∧ Ok C ∧ H1 a = some (.ins C dx fs) ∧ sp [.ref a] H1 Q E0
theorem pe_propA {f : Str} (he : PE X e ta) (hp : ∀ C, Ok C → Cls X.K C ∧ PropOf X.K C f p g) (F : FnR X.prog X.w X.K X.mg X.base CX0 k g sp) (hr : Room (k + 1) X.A)
    (hab : attributeBase e f X.env (eval e X.env) = eval e X.env := by rfl) : PE X (.Attribute e f pos) (tPropA Ok sp ta) := by
  refine ⟨fun pins s σ H Q I h => ?_⟩
  refine attr_of hab (thn (he.run pins s σ H _ I h) fun u s1 ⟨x, H1, I1, rx, a, C, dx, fs, ex, hC, ea, h⟩ => ?_)
  subst ex
  obtain rfl : u = Value.ref a := rx
  obtain ⟨c, hp⟩ := hp C hC
  obtain ⟨mA, O, _, _, _, _⟩ := ins_get I1.hok ea
  obtain ⟨od, J, _⟩ := O.look
  obtain ⟨rest, hrec⟩ := hp.rec_
  have I2 := I1.tok (s1.toks + 1)
  have hc : (PySem.W.clsIn X.K C).isSome = true := by
    obtain ⟨cd, hc, _⟩ := PySem.W.any_some c.hd
    rw [hc]
    rfl
  refine PySem.W.get_bind I1.kIn J (PySem.W.plainGet_of (c.get f)).1 (PySem.W.findObj_data hc hp.at_ hp.get hp.tak) (PySem.W.plainGet_of (c.get f)).2 (wpAny_call (PySem.W.prop_get (s := { s1 with toks := s1.toks + 1 }) I1.kIn hrec ?_))
  refine codeAny_mono (F X.A.in1 X.stack { s1 with toks := s1.toks + 1 } H1 [.ref a] [.ref a] Q E0 hr.in1 I2.env0.in1 (.cons rfl .nil) h) fun r s' hq => ?_
  cases r with
  | error er => exact hq.elim
  | ok fl =>
    cases fl with
    | ret u =>
      obtain ⟨v, H', I3, rv, q3⟩ := I2.after hq
      show wpAny _ _ (handedOut u) _ _ _
      rw [PySem.W.handedOut_of (handed_of rv)]
      exact wpAny_pure ⟨v, H', I3, rv, q3⟩
    | next => exact False.elim hq
    | brk => exact False.elim hq
    | cont => exact False.elim hq
def tMethA (Ok : Addr → Prop) (m : Str) (sp : Sp) (ta : TE) (t : TA) : TE := fun σ H Q => ta σ H fun x H1 => ∃ a C dx fs, x = .ref a ∧ Ok C ∧ H1 a = some (.ins C dx fs) ∧ fs.lookup m = none ∧ t σ H1 fun vs H2 => sp (x :: vs) H2 Q E0
theorem pe_methA {pl : Sem Bool} (he : PE X o ta) (hp : ∀ C, Ok C → Cls X.K C ∧ Meth X.K C m f) (F : FnR X.prog X.w X.K X.mg X.base CX0 k f sp) (hr : Room k X.A) (ha : PA X (e :: es) t)
    (hst : starEach (e :: es) X.env = (false, eval e X.env) :: starEach es X.env := by rfl) (hpl : (backTo pos (starEach es X.env)).any (·.1) = false := by rfl)
    (ht : eval (.Call (.Attribute o m apos) (e :: es) [] pos) X.env = (do
      let ov ← eval o X.env
      standAt apos.atName
      let (f, first) ← holding [ov] (getMethod ov m pl)
      callWith pos f first (backTo pos (starEach (e :: es) X.env)) (backToKw pos (keywordEach [] X.env))) := by rfl) :
    PE X (.Call (.Attribute o m apos) (e :: es) [] pos) (tMethA Ok m sp ta t) := by
  refine ⟨fun pins s σ H Q I h => ?_⟩
  refine PySem.W.methodCall_KW (pl := pl) (thn (he.run pins s σ H _ I h) fun u s1 ⟨x, H1, I1, rx, a, C, dx, fs, ex, hC, ea, l, q⟩ => ?_) ht
  subst ex
  obtain rfl : u = Value.ref a := rx
  obtain ⟨c, hm⟩ := hp C hC
  refine getmeth_ok I1 ea c hm l ?_
  refine PySem.W.callWith_K (first := [.ref a]) (h₀ := X.base) I.ok.mod.kin hm.kp (thn (ha.run pos pins s1 σ H1 _ I1 q) fun us s2 ⟨vs, H2, I2, r, q2⟩ => ⟨I2.kIn, ?_⟩) hst hpl
  exact wpAny_call (run_fnR (us := .ref a :: us) (vs := .ref a :: vs) F hr pass0 I2 (.cons rfl r) q2)
/-- len(o) -/
def rLenA (Ok : Addr → Prop) (sp : Sp) : List V → Hp → VK → Prop := fun xs H Q => ∃ a C dx fs, xs = [.ref a] ∧ Ok C ∧ H a = some (.ins C dx fs) ∧ sp [.ref a] H (fun v H' => ∃ n : Int, v = .int n ∧ 0 ≤ n ∧ n < 2 ^ 63 ∧ Q (.int n) H') E0
theorem call_lenA (hp : ∀ C, Ok C → Spc X.K C "__len__" f) (F : FnR X.prog X.w X.K X.mg X.base CX0 k f sp) (hr : Room (k + 1) X.A) : CallR X (.builtin "len") (rLenA Ok sp) := by
  intro pins s σ H xs us Q I r h
  obtain ⟨a, C, dx, fs, rfl, hC, ea, q⟩ := h
  exact call_lenO (hp C hC) F hr pins s σ H _ us Q I r ⟨a, dx, fs, rfl, ea, q⟩
/-- o[i] -/
def tSubA (Ok : Addr → Prop) (sp : Sp) (ta tb : TE) : TE := fun σ H Q => ta σ H fun x H1 => tb σ H1 fun y H2 => ∃ a C dx fs, x = .ref a ∧ Ok C ∧ H2 a = some (.ins C dx fs) ∧ sp [x, y] H2 Q E0
theorem pe_subA {b : Expr} {tb : TE} (hp : ∀ C, Ok C → Spc X.K C "__getitem__" f) (hk : PySem.W.fnIn X.K f = true) (F : FnR X.prog X.w X.K X.mg X.base CX0 k f sp) (hr : Room (k + 1) X.A) (ha : PE X e ta) (hb : PE X b tb)
    (hsl : ∀ v i, subscripted b true v i = runValue (.builtin "lifetime.subscript" ⟨[v, i], []⟩) := by intro _ _; rfl) : PE X (.Subscript e b pos) (tSubA Ok sp ta tb) := by
  refine ⟨fun pins s σ H Q I h => ?_⟩
  refine Subscript_ (binT ha hb I h fun u v s2 x y H2 I2 rx ry q => ?_)
  obtain ⟨a, C, dx, fs, rfl, hC, ea, q⟩ := q
  obtain rfl : u = Value.ref a := rx
  obtain ⟨mA, O, _, _, _, _⟩ := ins_get I2.hok ea
  obtain ⟨od, J, _⟩ := O.look
  obtain ⟨m, hF⟩ := I2.fr
  have M := hp C hC
  exact PySem.W.sub_K hF I2.ok.mod.kin J M.at_ hk M.fn (wpAny_call (run_in1 (us := [Value.ref a, v]) (vs := [V.ref a, y]) F hr I2 (.cons rfl (.cons ry .nil)) q)) (hsl _ _)
/-- {k: v}, k a tuple of ints -/
def tDisp1T (tk tv : TE) : TE := fun σ H Q => ∀ p, H p = none → tk σ (upd H p (.dT [])) fun x H1 => tv σ H1 fun y H2 => H2 p = some (.dT []) ∧ ∃ (b : Addr) (ks : List Key), x = .ref b ∧ H2 b = some (.tup (ks.map kV)) ∧ Q (.ref p) (upd H2 p (.dT [(ks, y)]))
theorem pe_disp1T {kx vx : Expr} {tk tv : TE} (hu : X.A.units + 1 < cLine) (hk : PE X kx tk) (hv : PE X vx tv) : PE X (.Dict [some kx] [vx] pos) (tDisp1T tk tv) := by
  refine ⟨fun pins s σ H Q I q => ?_⟩
  have hn := I.hok.fresh (Nat.le_refl s.heap.objs.size)
  have I1 := I.laid (a := s.heap.objs.size) (o := .dT []) (h' := s.heap.push { cls := .type "dict", data := .dict #[] }) (t' := s.toks) (fun _ _ q => Heap.get?_push_of_some _ q) (Nat.le_refl _) (dt_empty s.heap I.big)
  rw [arm_eval_Dict, show (evalEachOpt [some kx] X.env).zip ((evalEach [vx] X.env).map fun v => do let x ← v; standAt pos; pure x) = ([(eval kx X.env, (do let x ← eval vx X.env; standAt pos; pure x))] : List (Sem Value × Sem Value)).map (fun p => (some p.1, p.2)) from rfl, dictDisplay_pairs _ (by simp) (by simp)]
  refine wpAny_bind (wpAny_standAt (wpAny_bind (wpAny_subDictH (knd := tupleKind (mixKind X.prog X.w)) (Q := fun d s' => wpAny (model X.prog X.w) X.A (pure (Value.ref d)) (EP X pins σ Q) X.xe s') ?hroom (by simp) ?_)))
  case hroom => exact show X.A.units < cLine by omega
  refine evalPairs_cons ?_
  refine thn (hk.run pins _ σ _ _ I1 (q _ hn)) fun u s1 ⟨x, H1, I1', rx, q1⟩ => ?_
  refine wpAny_bind (thn (hv.run pins s1 σ H1 _ I1' q1) fun w2 s2 ⟨y, H2, I2, ry, e, b, ks, ex, eb, q2⟩ => wpAny_bind (wpAny_standAt (wpAny_pure ?_)))
  subst ex
  obtain rfl : u = Value.ref b := rx
  refine evalPairs_nil ?_
  obtain ⟨z, hd, xs0, r0, dd⟩ := dt_of I2.hok e
  cases r0
  refine ⟨[(ks, b, w2)], ⟨rfl, rfl, key_of I2.hok eb, trivial⟩, dd, fun h' tk dd' hs => wpAny_pure ⟨.ref s.heap.objs.size, _, ?_, rfl, q2⟩⟩
  obtain ⟨o, es, ep, hq, h2, h3, h4, _, h5⟩ := dd'
  refine Inv.tok (s := { s2 with heap := h' }) (d_write I2 (ob := .dT [(ks, y)]) (by rw [e]; exact True.intro) hs ⟨o, hq⟩ ⟨by show 1 ≤ sizeLine; decide, hd, [(ks, b, w2)], .cons ⟨rfl, ?_, ry⟩ .nil, o, es, ep, hq, h2, h3, h4, by simp⟩) tk
  show upd H2 _ _ b = _
  rw [upd_ne (ne_of eb e (fun z => nomatch z))]
  exact eb
end
end Cp
set_option Elab.async false
set_option linter.all false
set_option maxRecDepth 100000
set_option maxHeartbeats 2000000
/-! R3: the rules that lay or change an object, with the new heap told by what it keeps. -/
namespace Cp
open PySem PySem.Spec PyProof.Rows L2
theorem same_upd {H : Hp} {p : Addr} {o : HO} (h : H p = none) : Same H (upd H p o) := fun b x e => by
  rw [upd_ne (ne_of_none e h)]
  exact e
/-- the object at p is another now; all else is kept -/
def Chg (p : Addr) (o : HO) (H H' : Hp) : Prop := H p = some o ∧ ∀ b u, b ≠ p → H b = some u → H' b = some u
theorem chg_upd {H : Hp} {p : Addr} {o o' : HO} (h : H p = some o) : Chg p o H (upd H p o') := ⟨h, fun b u hb e => by rw [upd_ne hb]; exact e⟩
section
variable {X : Cx} {k : Nat} {f C : Addr} {sp : Sp} {x : Str} {pos pos' pn apos : Pos} {e o value : Expr} {es : List Expr} {ta tv te : TE} {t : TA}
def tTupS (t : TA) : TE := fun σ H Q => t σ H fun xs H1 => xs.length ≤ sizeLine ∧ ∀ p H2, H1 p = none → Same H1 H2 → H2 p = some (.tup xs) → Q (.ref p) H2
theorem pe_tupS {x1} (h : PA X es t) : PE X (.Tuple es x1 pos) (tTupS t) := by
  refine ⟨fun pins s σ H Q I hq => ?_⟩
  refine wpAny_Tuple_spliced (thn (h.run pos pins s σ H _ I hq) fun us s1 ⟨xs, H1, I1, r, z, q⟩ => ⟨by rw [← r.length]; exact z, ?_⟩)
  have hf : H1 s1.heap.objs.size = none := I1.hok.fresh (Nat.le_refl _)
  refine ⟨.ref s1.heap.objs.size, upd H1 s1.heap.objs.size (.tup xs), I1.laid (t' := s1.toks) (fun b u e => Heap.get?_push_of_some _ e) (Nat.le_refl _) ?_, rfl, q _ _ hf (same_upd hf) upd_same⟩
  exact ⟨z, us, r, ⟨_, Heap.get?_push_size _ rfl, rfl, _, rfl⟩⟩
def tLstS (t : TA) : TE := fun σ H Q => t σ H fun xs H1 => xs.length ≤ sizeLine ∧ ∀ p H2, H1 p = none → Same H1 H2 → H2 p = some (.lst xs) → Q (.ref p) H2
theorem pe_lstS (h : PA X es t) : PE X (.List es pos) (tLstS t) := by
  have g : PA X es (fun σ' H' Q' => ∃ W : List V → Hp → Prop, t σ' H' W ∧ ∀ y H2, W y H2 → Q' y H2) := ⟨fun p pins s σ' H' Q' I ⟨W, hW, h2⟩ => wpAny_mono (h.run p pins s σ' H' W I hW) (fun _ _ ⟨y, H1, I1, r, z⟩ => ⟨y, H1, I1, r, h2 _ _ z⟩) fun _ _ z => z⟩
  exact ⟨fun pins s σ H Q I hq => (pe_lst g).run pins s σ H Q I ⟨_, hq, fun xs H1 ⟨z, q⟩ => ⟨z, fun p hp => q p _ hp (same_upd hp) upd_same⟩⟩⟩
def tDNewS : TE := fun _ H Q => ∀ p H2, H p = none → Same H H2 → H2 p = some (.dT []) → Q (.ref p) H2
theorem pe_dnewS : PE X (.Dict [] [] pos) tDNewS := ⟨fun pins s σ H Q I h => pe_dnewT.run pins s σ H Q I fun p hp => h p _ hp (same_upd hp) upd_same⟩
/-- {k: v} -/
def tDisp1S (tk tv : TE) : TE := fun σ H Q => ∀ p H', H p = none → Same H H' → H' p = some (.dT []) → tk σ H' fun x H1 => tv σ H1 fun y H2 => H2 p = some (.dT []) ∧ ∃ (b : Addr) (ks : List Key), x = .ref b ∧ H2 b = some (.tup (ks.map kV)) ∧
  ∀ H3, Chg p (.dT []) H2 H3 → H3 p = some (.dT [(ks, y)]) → Q (.ref p) H3
theorem pe_disp1S {kx vx : Expr} {tk tv : TE} (hu : X.A.units + 1 < cLine) (hk : PE X kx tk) (hv : PE X vx tv) : PE X (.Dict [some kx] [vx] pos) (tDisp1S tk tv) := by
  refine ⟨fun pins s σ H Q I hq => ?_⟩
  have g : PE X vx (fun σ' H' Q' => ∃ W : VK, tv σ' H' W ∧ ∀ y H2, W y H2 → Q' y H2) := ⟨fun pins s σ' H' Q' I ⟨W, hW, h2⟩ => wpAny_mono (hv.run pins s σ' H' W I hW) (fun _ _ ⟨y, H1, I1, r, z⟩ => ⟨y, H1, I1, r, h2 _ _ z⟩) fun _ _ z => z⟩
  have gk : PE X kx (fun σ' H' Q' => ∃ W : VK, tk σ' H' W ∧ ∀ y H2, W y H2 → Q' y H2) := ⟨fun pins s σ' H' Q' I ⟨W, hW, h2⟩ => wpAny_mono (hk.run pins s σ' H' W I hW) (fun _ _ ⟨y, H1, I1, r, z⟩ => ⟨y, H1, I1, r, h2 _ _ z⟩) fun _ _ z => z⟩
  refine (pe_disp1T hu gk g).run pins s σ H Q I fun p hp => ⟨_, hq p _ hp (same_upd hp) upd_same, fun x H1 h1 => ⟨_, h1, fun y H2 ⟨e, b, ks, ex, eb, q⟩ => ⟨e, b, ks, ex, eb, q _ (chg_upd e) upd_same⟩⟩⟩
/-- C(e, ..) -/
def tMakeS (C : Addr) (sp : Sp) (t : TA) : TE := fun σ H Q => t σ H fun vs H1 => ∀ x dx H2, H1 x = none → H1 dx = none → dx ≠ x → Same H1 H2 → H2 x = some (.ins C dx []) → sp (V.ref x :: vs) H2 (fun v H3 => v = .non ∧ Q (.ref x) H3) E0
theorem same_made {H : Hp} {x dx C : Addr} (h1 : H x = none) (h2 : H dx = none) (hne : dx ≠ x) : Same H (upd (upd H dx (.own x)) x (.ins C dx [])) :=
  Same.trans (same_upd h2) (same_upd (by rw [upd_ne (Ne.symm hne)]; exact h1))
theorem pe_makeS (M : Mk X.K C f) (F : FnR X.prog X.w X.K X.mg X.base CX0 k f sp) (hr : Room (k + 1) X.A) (hg : Gl X x) (hm : X.mg x = some (.ref C)) (ha : PA X (e :: es) t) (hdb : (x == ("__debug__" : Str)) = false := by decide)
    (he : starEach (e :: es) X.env = (false, eval e X.env) :: starEach es X.env := by rfl) (hpl : (backTo pos (starEach es X.env)).any (·.1) = false := by rfl) : PE X (.Call (.Name x pn) (e :: es) [] pos) (tMakeS C sp t) := by
  refine ⟨fun pins s σ H Q I h => ?_⟩
  refine wpAny_Call_Name_kw (ld_glob I hg hm ?_ hdb)
  refine PySem.W.callWith_K (h₀ := X.base) I.ok.mod.kin M.kp (thn (ha.run pos pins s σ H _ I h) fun us s1 ⟨vs, H1, I1, r, q⟩ => ⟨I1.kIn, ?_⟩) he hpl
  exact StX.run_makeR M F hr pass0 I1 r fun x dx hx hdx hne => q x dx _ hx hdx hne (same_made hx hdx hne) upd_same
/-- x(e, ..), x a local that holds the class at C -/
def tMakeVS (i : Nat) (C : Addr) (sp : Sp) (t : TA) : TE := fun σ H Q => σ[i]? = some (some (.ref C)) ∧ tMakeS C sp t σ H Q
theorem pe_makeVS {i : Nat} (M : Mk X.K C f) (F : FnR X.prog X.w X.K X.mg X.base CX0 k f sp) (hr : Room (k + 1) X.A) (hN : X.N[i]? = some x) (hv : Vis X.env.scope x) (ha : PA X (e :: es) t)
    (hd : (x == ("__debug__" : Str)) = false := by decide) (hcd : (x == ("__classdict__" : Str)) = false := by decide)
    (he : starEach (e :: es) X.env = (false, eval e X.env) :: starEach es X.env := by rfl) (hpl : (backTo pos (starEach es X.env)).any (·.1) = false := by rfl) : PE X (.Call (.Name x pn) (e :: es) [] pos) (tMakeVS i C sp t) := by
  refine ⟨fun pins s σ H Q I h => ?_⟩
  obtain ⟨h0, h⟩ := h
  refine wpAny_Call_Name_kw (thn ((pe_var (pos := pn) hN hv hd hcd).run pins s σ H (fun v H1 => v = .ref C ∧ H1 = H) I ⟨.ref C, h0, rfl, rfl⟩) fun u s1 ⟨v, H1, I1, rv, ev, eH⟩ => ?_)
  subst ev
  subst eH
  obtain rfl : u = Value.ref C := rv
  refine PySem.W.callWith_K (h₀ := X.base) I.ok.mod.kin M.kp (thn (ha.run pos pins s1 σ H1 _ I1 h) fun us s2 ⟨vs, H2, I2, r, q⟩ => ⟨I2.kIn, ?_⟩) he hpl
  exact StX.run_makeR M F hr pass0 I2 r fun x dx hx hdx hne => q x dx _ hx hdx hne (same_made hx hdx hne) upd_same
/-- o.f = e -/
def sFldS (K : PySem.W.Frag) (ta tv : TE) (f : Str) : TS := fun D σ H => tv σ H fun y H1 => ta σ H1 fun x H2 => ∃ a C dx fs, x = .ref a ∧ H2 a = some (.ins C dx fs) ∧ Cls K C ∧ NoAttr K C f ∧ fs.length < 1000 ∧
  ∀ H3, Chg a (.ins C dx fs) H2 H3 → H3 a = some (.ins C dx (putF f y fs)) → D.nx σ H3
theorem ps_fldS {f : Str} (ha : PE X o ta) (hv : PE X value tv) (hs : swapsWith value (some (.Attribute o f pos')) pos.line X.env = pure false) : PS X (.Assign [.Attribute o f pos'] value pos) (sFldS X.K ta tv f) := by
  refine ⟨fun pins s σ H D I h => ?_⟩
  refine plainObj_wpAny_Assign_Attribute (thn (hv.run pins s σ H _ I h) fun u s1 ⟨y, H1, I1, ry, q⟩ => thn (ha.run pins s1 σ H1 _ I1 q) fun ov s2 ⟨x, H2, I2, rx, a, C, dx, fs, ex, ea, c, n, l, q2⟩ => ?_) hs
  subst ex
  obtain rfl : ov = Value.ref a := rx
  exact setattr_ok I2 ea c n l ry fun s3 I3 => ⟨σ, _, I3, q2 _ (chg_upd ea) upd_same⟩
def gAttrS (K : PySem.W.Frag) (ta : TE) (f : Str) : TG := fun v σ H Q => ta σ H fun x H1 => ∃ a C dx fs, x = .ref a ∧ H1 a = some (.ins C dx fs) ∧ Cls K C ∧ NoAttr K C f ∧ fs.length < 1000 ∧ ∀ H3, Chg a (.ins C dx fs) H1 H3 → H3 a = some (.ins C dx (putF f v fs)) → Q σ H3
theorem pg_attrS {f : Str} (ho : PE X o ta) : PG X (.Attribute o f pos) (gAttrS X.K ta f) := by
  refine ⟨fun pins s σ H v u Q I r h => ?_⟩
  rw [PySem.assign_Attribute]
  refine wpAny_bind (wpAny_holding (thn (ho.run pins s σ H _ I h) fun ov s1 ⟨x, H1, I1, rx, a, C, dx, fs, ex, ea, c, n, l, q⟩ => ?_))
  subst ex
  obtain rfl : ov = Value.ref a := rx
  refine wpAny_bind (wpAny_standAt (wpAny_bind (wpAny_holding (setattr_ok I1 ea c n l r fun s2 I2 => ?_))))
  exact wpAny_release ⟨σ, _, I2, q _ (chg_upd ea) upd_same⟩
/-- d[k] = v -/
def sDPutS (td ty tv : TE) : TS := fun D σ H => tv σ H fun v H1 => td σ H1 fun x H2 => ty σ H2 fun y H3 => ∃ (a b : Addr) (kvs : List (List Key × V)) (ks : List Key), x = .ref a ∧ y = .ref b ∧ H3 a = some (.dT kvs) ∧ H3 b = some (.tup (ks.map kV)) ∧ kvs.length < sizeLine ∧
  ∀ H4, Chg a (.dT kvs) H3 H4 → H4 a = some (.dT (putK kvs ks v)) → D.nx σ H4
theorem ps_dputS {i : Expr} {td ty : TE} (hu : X.A.units + 1 < cLine) (ho : PE X o td) (hi : PE X i ty) (hv : PE X value tv) (hs : swapsWith value (some (.Subscript o i pos')) pos.line X.env = pure false) :
    PS X (.Assign [.Subscript o i pos'] value pos) (sDPutS td ty tv) := by
  have g : ∀ {e : Expr} {t : TE}, PE X e t → PE X e (fun σ' H' Q' => ∃ W : VK, t σ' H' W ∧ ∀ y H2, W y H2 → Q' y H2) := fun {e t} hv => ⟨fun pins s σ' H' Q' I ⟨W, hW, h2⟩ => wpAny_mono (hv.run pins s σ' H' W I hW) (fun _ _ ⟨y, H1, I1, r, z⟩ => ⟨y, H1, I1, r, h2 _ _ z⟩) fun _ _ z => z⟩
  refine ⟨fun pins s σ H D I h => (ps_dput hu (g ho) (g hi) (g hv) hs).run pins s σ H D I ?_⟩
  refine ⟨_, h, fun v H1 h1 => ⟨_, h1, fun x H2 h2 => ⟨_, h2, fun y H3 ⟨a, b, kvs, ks, ex, ey, ea, eb, hl, q⟩ => ?_⟩⟩⟩
  subst ex ey
  exact ⟨a, _, rfl, DPut.t ea eb hl, q _ (chg_upd ea) upd_same⟩
end
end Cp
set_option Elab.async false
set_option linter.all false
set_option maxRecDepth 100000
set_option maxHeartbeats 2000000
/-! R4: list comprehensions, the new list told by what it keeps. -/
namespace Cp
open PySem PySem.Spec PyProof.Rows L2
def clE (t : TE) : TE := fun σ H Q => ∃ W : VK, t σ H W ∧ ∀ y H2, W y H2 → Q y H2
def clT (t : TT) : TT := fun σ H Q => ∃ W : Bool → Hp → Prop, t σ H W ∧ ∀ y H2, W y H2 → Q y H2
def clA (t : TA) : TA := fun σ H Q => ∃ W : List V → Hp → Prop, t σ H W ∧ ∀ y H2, W y H2 → Q y H2
def clG (t : TG) : TG := fun v σ H Q => ∃ W : L2.St → Hp → Prop, t v σ H W ∧ ∀ y H2, W y H2 → Q y H2
section
variable {X : Cx}
theorem mono_E {e : Expr} {t : TE} (h : PE X e t) : PE X e (clE t) := ⟨fun pins s σ' H' Q' I ⟨W, hW, h2⟩ => wpAny_mono (h.run pins s σ' H' W I hW) (fun _ _ ⟨y, H1, I1, r, z⟩ => ⟨y, H1, I1, r, h2 _ _ z⟩) fun _ _ z => z⟩
theorem mono_A {e : List Expr} {t : TA} (h : PA X e t) : PA X e (clA t) := ⟨fun p pins s σ' H' Q' I ⟨W, hW, h2⟩ => wpAny_mono (h.run p pins s σ' H' W I hW) (fun _ _ ⟨y, H1, I1, r, z⟩ => ⟨y, H1, I1, r, h2 _ _ z⟩) fun _ _ z => z⟩
theorem mono_Ts {e : List Expr} {t : TT} (h : PTs X e t) : PTs X e (clT t) := ⟨fun pins s σ' H' Q' I ⟨W, hW, h2⟩ => wpAny_mono (h.run pins s σ' H' W I hW) (fun _ _ ⟨H1, I1, z⟩ => ⟨H1, I1, h2 _ _ z⟩) fun _ _ z => z⟩
theorem mono_G {e : Expr} {t : TG} (h : PG X e t) : PG X e (clG t) := ⟨fun pins s σ' H' v u Q' I r ⟨W, hW, h2⟩ => wpAny_mono (h.run pins s σ' H' v u W I r hW) (fun _ _ ⟨y, H1, I1, z⟩ => ⟨y, H1, I1, h2 _ _ z⟩) fun _ _ z => z⟩
end
/-- a turn of a comprehension: x the item; P by the turn, the list so far, the heap -/
def LcTurn (g : TG) (tt : TT) (te : TE) (vs : List Nat) (σ : L2.St) (H1 : Hp) (P : Nat → List V → Hp → Prop) (D : Addr) (i : Nat) (x : V) (acc : List V) (H : Hp) : Prop :=
  g x (wipe σ vs) H fun σ2 H2 => wipe σ2 vs = wipe σ vs ∧ tt σ2 H2 fun b H3 => if b = true then te σ2 H3 fun y H4 => H4 D = some (.lst acc) ∧ Same H1 H4 ∧ ∀ H5, Chg D (.lst acc) H4 H5 → Same H1 H5 → P (i + 1) (acc ++ [y]) H5
    else H3 D = some (.lst acc) ∧ Same H1 H3 ∧ P (i + 1) acc H3
def LcBody (g : TG) (tt : TT) (te : TE) (vs : List Nat) (σ : L2.St) (H1 : Hp) (n : Nat) (at_ : Nat → V → Prop) (Q : VK) : Prop := n < sizeLine ∧ ∃ P : Nat → List V → Hp → Prop, (∀ H, Same H1 H → P 0 [] H) ∧
  (∀ D i x acc H, i < n → at_ i x → H1 D = none → Same H1 H → H D = some (.lst acc) → P i acc H → LcTurn g tt te vs σ H1 P D i x acc H) ∧ ∀ D acc H, H1 D = none → Same H1 H → H D = some (.lst acc) → P n acc H → Q (.ref D) H
/-- what the rule's own invariant is -/
def LcP (H1 : Hp) (D : Addr) (P : Nat → List V → Hp → Prop) (i : Nat) (H : Hp) : Prop := ∃ acc, H D = some (.lst acc) ∧ acc.length ≤ i ∧ Same H1 H ∧ P i acc H
theorem same_chg {p : Addr} {o : HO} {H0 H H' : Hp} (s : Same H0 H) (c : Chg p o H H') (n : H0 p = none) : Same H0 H' := fun b u e => c.2 b u (fun z => by subst z; rw [n] at e; cases e) (s b u e)
theorem lc_turn {g : TG} {tt : TT} {te : TE} {vs : List Nat} {σ : L2.St} {H1 : Hp} {P : Nat → List V → Hp → Prop} {D : Addr} {i n : Nat} {x : V} {H : Hp} (hn : n < sizeLine) (hi : i < n) (hD : H1 D = none) (hp : LcP H1 D P i H)
    (h : ∀ acc, Same H1 H → H D = some (.lst acc) → P i acc H → LcTurn g tt te vs σ H1 P D i x acc H) :
    clG g x (wipe σ vs) H fun σ2 H2 => wipe σ2 vs = wipe σ vs ∧ clT tt σ2 H2 fun b H3 => if b = true then clE te σ2 H3 fun y H4 => ∃ acc, H4 D = some (.lst acc) ∧ acc.length < sizeLine ∧ LcP H1 D P (i + 1) (upd H4 D (.lst (acc ++ [y]))) else LcP H1 D P (i + 1) H3 := by
  obtain ⟨acc, e, hl, s, p⟩ := hp
  refine ⟨_, h acc s e p, fun σ2 H2 ⟨hw, ht⟩ => ⟨hw, _, ht, fun b H3 hb => ?_⟩⟩
  cases b with
  | true =>
    rw [if_pos rfl] at hb ⊢
    refine ⟨_, hb, fun y H4 ⟨e4, s4, h5⟩ => ⟨acc, e4, by omega, acc ++ [y], upd_same, by rw [List.length_append]; simpa using hl, same_chg s4 (chg_upd e4) hD, h5 _ (chg_upd e4) (same_chg s4 (chg_upd e4) hD)⟩⟩
  | false =>
    rw [if_neg Bool.false_ne_true] at hb ⊢
    exact ⟨acc, hb.1, by omega, hb.2.1, hb.2.2⟩
theorem lcp_start {H1 : Hp} {D : Addr} {P : Nat → List V → Hp → Prop} (hD : H1 D = none) (h : ∀ H, Same H1 H → P 0 [] H) : LcP H1 D P 0 (upd H1 D (.lst [])) := ⟨[], upd_same, Nat.le_refl _, same_upd hD, h _ (same_upd hD)⟩
/-- over a list, a tuple, a range -/
def tLcL (K : PySem.W.Frag) (tl : TE) (g : TG) (tt : TT) (te : TE) (vs : List Nat) : TE := fun σ H Q => tl σ H fun x H1 => ∃ a xs, x = .ref a ∧ SqL K H1 a xs ∧ LcBody g tt te vs σ H1 xs.length (fun i x => xs[i]? = some x) Q
def tLcT (K : PySem.W.Frag) (tl : TE) (g : TG) (tt : TT) (te : TE) (vs : List Nat) : TE := fun σ H Q => tl σ H fun x H1 => ∃ a xs, x = .ref a ∧ SqT K H1 a xs ∧ LcBody g tt te vs σ H1 xs.length (fun i x => xs[i]? = some x) Q
def tLcR1 (ta : TA) (g : TG) (tt : TT) (te : TE) (vs : List Nat) : TE := fun σ H Q => ta σ H fun us H1 => ∃ n : Nat, us = [.int n] ∧ LcBody g tt te vs σ H1 n (fun i x => x = .int i) Q
def tLcR2 (ta : TA) (g : TG) (tt : TT) (te : TE) (vs : List Nat) : TE := fun σ H Q => ta σ H fun us H1 => ∃ (lo : Int) (n : Nat), us = [.int lo, .int (lo + n)] ∧ (-(2 ^ 61) ≤ lo ∧ lo < 2 ^ 61) ∧ LcBody g tt te vs σ H1 n (fun i x => x = .int (lo + i)) Q
section
variable {X : Cx} {elt tg l : Expr} {ifs : List Expr} {scope : Scope} {own : List (Str × Nat)} {pos p p2 : Pos} {g : TG} {tt : TT} {te tl : TE} {ta : TA}
theorem pe_lcL (hc : X.calm = true) (hN : X.N.Nodup) (hl : PE X l tl) (ok : BlkOk X.N X.env.scope scope own)
    (hg : ∀ (s : Shared) (H : Hp) (C : Addr) (cl : List (Str × Addr)) (fp : List Addr), PG (X.blk s H scope (compEnvC scope cl C X.env) fp) tg g) (ht : ∀ (s : Shared) (H : Hp) (C : Addr) (cl : List (Str × Addr)) (fp : List Addr), PTs (X.blk s H scope (compEnvC scope cl C X.env) fp) ifs tt)
    (he : ∀ (s : Shared) (H : Hp) (C : Addr) (cl : List (Str × Addr)) (fp : List Addr), PE (X.blk s H scope (compEnvC scope cl C X.env) fp) elt te) (hs : ∀ x, foldedSetIterable l X.env x = pure x := by intro _; rfl) :
    PE X (.ListComp elt [⟨tg, l, ifs, 0⟩] scope pos) (tLcL X.K tl g tt te (own.map (·.2))) := by
  refine ⟨fun pins s σ H Q I h => (pe_lc hc hN (pi_list (mono_E hl)) ok (fun a b c d e => mono_G (hg a b c d e)) (fun a b c d e => mono_Ts (ht a b c d e)) (fun a b c d e => mono_E (he a b c d e)) hs).run pins s σ H Q I ?_⟩
  refine ⟨_, h, fun x H1 ⟨a, xs, ex, hq, hn, P, p0, pt, pd⟩ => ⟨a, ex, ⟨xs, hq⟩, fun D hD => ?_⟩⟩
  refine lc_list (xs := xs) (LcP H1 D P) (lcp_start hD p0) (fun i H _ ⟨acc, _, _, s, _⟩ => ?_) (fun i x H hx hp => ?_) (fun H ⟨acc, e, _, s, p⟩ => pd D acc H hD s e p)
  · rcases hq with (hq | ⟨o, hq⟩) | hq
    · exact .inl (.inl (s _ _ hq))
    · exact .inl (.inr ⟨o, s _ _ hq⟩)
    · exact .inr hq
  · exact lc_turn hn (List.getElem?_eq_some_iff.mp hx).1 hD hp fun acc s e p => pt D i x acc H (List.getElem?_eq_some_iff.mp hx).1 hx hD s e p
theorem pe_lcT (hc : X.calm = true) (hN : X.N.Nodup) (hl : PE X l tl) (ok : BlkOk X.N X.env.scope scope own)
    (hg : ∀ (s : Shared) (H : Hp) (C : Addr) (cl : List (Str × Addr)) (fp : List Addr), PG (X.blk s H scope (compEnvC scope cl C X.env) fp) tg g) (ht : ∀ (s : Shared) (H : Hp) (C : Addr) (cl : List (Str × Addr)) (fp : List Addr), PTs (X.blk s H scope (compEnvC scope cl C X.env) fp) ifs tt)
    (he : ∀ (s : Shared) (H : Hp) (C : Addr) (cl : List (Str × Addr)) (fp : List Addr), PE (X.blk s H scope (compEnvC scope cl C X.env) fp) elt te) (hs : ∀ x, foldedSetIterable l X.env x = pure x := by intro _; rfl) :
    PE X (.ListComp elt [⟨tg, l, ifs, 0⟩] scope pos) (tLcT X.K tl g tt te (own.map (·.2))) := by
  refine ⟨fun pins s σ H Q I h => (pe_lc hc hN (pi_tup (mono_E hl)) ok (fun a b c d e => mono_G (hg a b c d e)) (fun a b c d e => mono_Ts (ht a b c d e)) (fun a b c d e => mono_E (he a b c d e)) hs).run pins s σ H Q I ?_⟩
  refine ⟨_, h, fun x H1 ⟨a, xs, ex, hq, hn, P, p0, pt, pd⟩ => ⟨a, ex, ⟨xs, hq⟩, fun D hD => ?_⟩⟩
  refine lc_tup (xs := xs) (LcP H1 D P) (lcp_start hD p0) (fun i H _ ⟨acc, _, _, s, _⟩ => ?_) (fun i x H hx hp => ?_) (fun H ⟨acc, e, _, s, p⟩ => pd D acc H hD s e p)
  · rcases hq with (hq | ⟨o, hq⟩) | hq
    · exact .inl (.inl (s _ _ hq))
    · exact .inl (.inr ⟨o, s _ _ hq⟩)
    · exact .inr hq
  · exact lc_turn hn (List.getElem?_eq_some_iff.mp hx).1 hD hp fun acc s e p => pt D i x acc H (List.getElem?_eq_some_iff.mp hx).1 hx hD s e p
theorem pe_lcR1 {a : Expr} (hc : X.calm = true) (hN : X.N.Nodup) (hgl : Gl X "range") (hm : X.mg "range" = none) (ha : PA X [a] ta) (ok : BlkOk X.N X.env.scope scope own)
    (hg : ∀ (s : Shared) (H : Hp) (C : Addr) (cl : List (Str × Addr)) (fp : List Addr), PG (X.blk s H scope (compEnvC scope cl C X.env) fp) tg g) (ht : ∀ (s : Shared) (H : Hp) (C : Addr) (cl : List (Str × Addr)) (fp : List Addr), PTs (X.blk s H scope (compEnvC scope cl C X.env) fp) ifs tt)
    (he : ∀ (s : Shared) (H : Hp) (C : Addr) (cl : List (Str × Addr)) (fp : List Addr), PE (X.blk s H scope (compEnvC scope cl C X.env) fp) elt te) (hss : starEach [a] X.env = [(false, eval a X.env)] := by rfl) (hs : ∀ x, foldedSetIterable (.Call (.Name "range" p) [a] [] p2) X.env x = pure x := by intro _; rfl) :
    PE X (.ListComp elt [⟨tg, .Call (.Name "range" p) [a] [] p2, ifs, 0⟩] scope pos) (tLcR1 ta g tt te (own.map (·.2))) := by
  refine ⟨fun pins s σ H Q I h => (pe_lc hc hN (pi_range1 hgl hm (mono_A ha) hss) ok (fun a b c d e => mono_G (hg a b c d e)) (fun a b c d e => mono_Ts (ht a b c d e)) (fun a b c d e => mono_E (he a b c d e)) hs).run pins s σ H Q I ?_⟩
  refine ⟨_, h, fun us H1 ⟨n, eu, hn, P, p0, pt, pd⟩ => ?_⟩
  subst eu
  have hsl : sizeLine = 16777216 := sizeLine_eq
  refine ⟨(n : Int), rfl, by omega, by omega, fun D hD => ?_⟩
  rw [Int.toNat_natCast]
  refine lc_range (LcP H1 D P) (lcp_start hD p0) (fun i H hi hp => ?_) (fun H ⟨acc, e, _, s, p⟩ => pd D acc H hD s e p)
  rw [Int.zero_add]
  exact lc_turn hn hi hD hp fun acc s e p => pt D i _ acc H hi rfl hD s e p
theorem pe_lcR2 {a b : Expr} (hc : X.calm = true) (hN : X.N.Nodup) (hgl : Gl X "range") (hm : X.mg "range" = none) (ha : PA X [a, b] ta) (ok : BlkOk X.N X.env.scope scope own)
    (hg : ∀ (s : Shared) (H : Hp) (C : Addr) (cl : List (Str × Addr)) (fp : List Addr), PG (X.blk s H scope (compEnvC scope cl C X.env) fp) tg g) (ht : ∀ (s : Shared) (H : Hp) (C : Addr) (cl : List (Str × Addr)) (fp : List Addr), PTs (X.blk s H scope (compEnvC scope cl C X.env) fp) ifs tt)
    (he : ∀ (s : Shared) (H : Hp) (C : Addr) (cl : List (Str × Addr)) (fp : List Addr), PE (X.blk s H scope (compEnvC scope cl C X.env) fp) elt te) (hss : starEach [a, b] X.env = [(false, eval a X.env), (false, eval b X.env)] := by rfl) (hss2 : starEach [b] X.env = [(false, eval b X.env)] := by rfl) (hs : ∀ x, foldedSetIterable (.Call (.Name "range" p) [a, b] [] p2) X.env x = pure x := by intro _; rfl) :
    PE X (.ListComp elt [⟨tg, .Call (.Name "range" p) [a, b] [] p2, ifs, 0⟩] scope pos) (tLcR2 ta g tt te (own.map (·.2))) := by
  refine ⟨fun pins s σ H Q I h => (pe_lc hc hN (pi_range2 hgl hm (mono_A ha) hss hss2) ok (fun a b c d e => mono_G (hg a b c d e)) (fun a b c d e => mono_Ts (ht a b c d e)) (fun a b c d e => mono_E (he a b c d e)) hs).run pins s σ H Q I ?_⟩
  refine ⟨_, h, fun us H1 ⟨lo, n, eu, ⟨b1, b2⟩, hn, P, p0, pt, pd⟩ => ?_⟩
  subst eu
  have hsl : sizeLine = 16777216 := sizeLine_eq
  refine ⟨lo, lo + n, rfl, ⟨by omega, by omega, by omega, by omega⟩, fun D hD => ?_⟩
  rw [show (lo + (n : Int) - lo).toNat = n by omega]
  refine lc_range (LcP H1 D P) (lcp_start hD p0) (fun i H hi hp => ?_) (fun H ⟨acc, e, _, s, p⟩ => pd D acc H hD s e p)
  exact lc_turn hn hi hD hp fun acc s e p => pt D i _ acc H hi rfl hD s e p
theorem ps_setLcL {i : Nat} {y : Str} {py spos : Pos} (hc : X.calm = true) (hN : X.N.Nodup) (hy : X.N[i]? = some y) (hyl : X.env.scope.names.lookup y = some .local) (hsw : swapsWith (.ListComp elt [⟨tg, l, ifs, 0⟩] scope pos) (some (.Name y py)) spos.line X.env = pure true) (hl : PE X l tl) (ok : BlkOk X.N X.env.scope scope own)
    (hg : ∀ (s : Shared) (H : Hp) (C : Addr) (cl : List (Str × Addr)) (fp : List Addr), PG (X.blk s H scope (compEnvC scope cl C X.env) fp) tg g) (ht : ∀ (s : Shared) (H : Hp) (C : Addr) (cl : List (Str × Addr)) (fp : List Addr), PTs (X.blk s H scope (compEnvC scope cl C X.env) fp) ifs tt)
    (he : ∀ (s : Shared) (H : Hp) (C : Addr) (cl : List (Str × Addr)) (fp : List Addr), PE (X.blk s H scope (compEnvC scope cl C X.env) fp) elt te) (hs : ∀ x, foldedSetIterable l X.env x = pure x := by intro _; rfl) :
    PS X (.Assign [.Name y py] (.ListComp elt [⟨tg, l, ifs, 0⟩] scope pos) spos) (tAsg (tLcL X.K tl g tt te (own.map (·.2))) (gName i)) := by
  refine ⟨fun pins s σ H D0 I h => (ps_setLc hc hN hy hyl hsw (pi_list (mono_E hl)) ok (fun a b c d e => mono_G (hg a b c d e)) (fun a b c d e => mono_Ts (ht a b c d e)) (fun a b c d e => mono_E (he a b c d e)) hs).run pins s σ H D0 I ?_⟩
  refine ⟨_, h, fun x H1 ⟨a, xs, ex, hq, hn, P, p0, pt, pd⟩ => ⟨a, ex, ⟨xs, hq⟩, fun D hD => ?_⟩⟩
  refine lc_list (xs := xs) (LcP H1 D P) (lcp_start hD p0) (fun i H _ ⟨acc, _, _, s, _⟩ => ?_) (fun i x H hx hp => ?_) (fun H ⟨acc, e, _, s, p⟩ => pd D acc H hD s e p)
  · rcases hq with (hq | ⟨o, hq⟩) | hq
    · exact .inl (.inl (s _ _ hq))
    · exact .inl (.inr ⟨o, s _ _ hq⟩)
    · exact .inr hq
  · exact lc_turn hn (List.getElem?_eq_some_iff.mp hx).1 hD hp fun acc s e p => pt D i x acc H (List.getElem?_eq_some_iff.mp hx).1 hx hD s e p
theorem ps_setLcR1 {i : Nat} {y : Str} {py spos : Pos} {a : Expr} (hc : X.calm = true) (hN : X.N.Nodup) (hy : X.N[i]? = some y) (hyl : X.env.scope.names.lookup y = some .local) (hsw : swapsWith (.ListComp elt [⟨tg, .Call (.Name "range" p) [a] [] p2, ifs, 0⟩] scope pos) (some (.Name y py)) spos.line X.env = pure true) (hgl : Gl X "range") (hm : X.mg "range" = none) (ha : PA X [a] ta) (ok : BlkOk X.N X.env.scope scope own)
    (hg : ∀ (s : Shared) (H : Hp) (C : Addr) (cl : List (Str × Addr)) (fp : List Addr), PG (X.blk s H scope (compEnvC scope cl C X.env) fp) tg g) (ht : ∀ (s : Shared) (H : Hp) (C : Addr) (cl : List (Str × Addr)) (fp : List Addr), PTs (X.blk s H scope (compEnvC scope cl C X.env) fp) ifs tt)
    (he : ∀ (s : Shared) (H : Hp) (C : Addr) (cl : List (Str × Addr)) (fp : List Addr), PE (X.blk s H scope (compEnvC scope cl C X.env) fp) elt te) (hss : starEach [a] X.env = [(false, eval a X.env)] := by rfl) (hs : ∀ x, foldedSetIterable (.Call (.Name "range" p) [a] [] p2) X.env x = pure x := by intro _; rfl) :
    PS X (.Assign [.Name y py] (.ListComp elt [⟨tg, .Call (.Name "range" p) [a] [] p2, ifs, 0⟩] scope pos) spos) (tAsg (tLcR1 ta g tt te (own.map (·.2))) (gName i)) := by
  refine ⟨fun pins s σ H D0 I h => (ps_setLc hc hN hy hyl hsw (pi_range1 hgl hm (mono_A ha) hss) ok (fun a b c d e => mono_G (hg a b c d e)) (fun a b c d e => mono_Ts (ht a b c d e)) (fun a b c d e => mono_E (he a b c d e)) hs).run pins s σ H D0 I ?_⟩
  refine ⟨_, h, fun us H1 ⟨n, eu, hn, P, p0, pt, pd⟩ => ?_⟩
  subst eu
  have hsl : sizeLine = 16777216 := sizeLine_eq
  refine ⟨(n : Int), rfl, by omega, by omega, fun D hD => ?_⟩
  rw [Int.toNat_natCast]
  refine lc_range (LcP H1 D P) (lcp_start hD p0) (fun i H hi hp => ?_) (fun H ⟨acc, e, _, s, p⟩ => pd D acc H hD s e p)
  rw [Int.zero_add]
  exact lc_turn hn hi hD hp fun acc s e p => pt D i _ acc H hi rfl hD s e p
end
end Cp
set_option Elab.async false
set_option linter.all false
set_option maxRecDepth 100000
set_option maxHeartbeats 2000000
/-! R5: a list comprehension over a text; for over enumerate. -/
namespace Cp
open PySem PySem.Spec PyProof.Rows L2
def tLcS (tl : TE) (g : TG) (tt : TT) (te : TE) (vs : List Nat) : TE := fun σ H Q => tl σ H fun x H1 => ∃ L : List Nat, x = .str ⟨L.toArray⟩ ∧ LcBody g tt te vs σ H1 L.length (fun i x => ∃ c, L[i]? = some c ∧ x = .str ⟨#[c]⟩) Q
theorem pe_lcS {X : Cx} {elt tg l : Expr} {ifs : List Expr} {scope : Scope} {own : List (Str × Nat)} {pos : Pos} {g : TG} {tt : TT} {te tl : TE} (hc : X.calm = true) (hN : X.N.Nodup) (hl : PE X l tl) (ok : BlkOk X.N X.env.scope scope own)
    (hg : ∀ (s : Shared) (H : Hp) (C : Addr) (cl : List (Str × Addr)) (fp : List Addr), PG (X.blk s H scope (compEnvC scope cl C X.env) fp) tg g) (ht : ∀ (s : Shared) (H : Hp) (C : Addr) (cl : List (Str × Addr)) (fp : List Addr), PTs (X.blk s H scope (compEnvC scope cl C X.env) fp) ifs tt)
    (he : ∀ (s : Shared) (H : Hp) (C : Addr) (cl : List (Str × Addr)) (fp : List Addr), PE (X.blk s H scope (compEnvC scope cl C X.env) fp) elt te) (hs : ∀ x, foldedSetIterable l X.env x = pure x := by intro _; rfl) :
    PE X (.ListComp elt [⟨tg, l, ifs, 0⟩] scope pos) (tLcS tl g tt te (own.map (·.2))) := by
  refine ⟨fun pins s σ H Q I h => (pe_lc hc hN (pi_str (mono_E hl)) ok (fun a b c d e => mono_G (hg a b c d e)) (fun a b c d e => mono_Ts (ht a b c d e)) (fun a b c d e => mono_E (he a b c d e)) hs).run pins s σ H Q I ?_⟩
  refine ⟨_, h, fun x H1 ⟨L, ex, hn, P, p0, pt, pd⟩ => ⟨_, ex, fun D hD => ?_⟩⟩
  have hz : (L.toArray).size = L.length := List.size_toArray
  refine ⟨fun i m H => m = L.length - i ∧ i ≤ L.length ∧ LcP H1 D P i H, ⟨L.length, rfl, Nat.zero_le _, lcp_start hD p0⟩, ?_⟩
  rintro i m H ⟨rfl, hi, p⟩
  by_cases hlt : i < L.length
  · refine .inr ⟨by show i < L.toArray.size; rw [hz]; exact hlt, LcP H1 D P (i + 1), fun H' p' => ⟨L.length - (i + 1), by omega, rfl, hlt, p'⟩, ?_⟩
    rintro x H' ⟨rfl, c, hc, rfl⟩
    exact lc_turn hn hlt hD p fun acc s e q => pt D i _ acc H' hlt ⟨c, by simpa using hc, rfl⟩ hD s e q
  · refine .inl ⟨by show L.toArray.size ≤ i; rw [hz]; omega, ?_⟩
    have e : i = L.length := by omega
    subst e
    obtain ⟨acc, e, _, s, q⟩ := p
    exact pd D acc H hD s e q
theorem for_enum {K : PySem.W.Frag} {a : Addr} {xs : List V} {g : TG} {tb : TS} {D : Ends} {σ : L2.St} {H : Hp} (Pv : Nat → L2.St → Hp → Prop) (h0 : Pv 0 σ H) (hl : ∀ i σ H, Pv i σ H → SqL K H a xs)
    (hs : ∀ i x σ H T H2, xs[i]? = some x → Pv i σ H → H T = none → Same H H2 → H2 T = some (.tup [.int (i : Nat), x]) → g (.ref T) σ H2 fun σ2 H2 => tb { D with nx := Pv (i + 1), ct := Pv (i + 1), bk := D.nx } σ2 H2) (hd : ∀ σ H, Pv xs.length σ H → D.nx σ H) :
    ∃ W : Nat → Nat → L2.St → Hp → Prop, (∃ m, W 0 m σ H) ∧ ∀ i m σ H, W i m σ H →
      ((Ite K a).stop i H ∧ D.nx σ H) ∨ ((Ite K a).go i H ∧ ∃ N : L2.St → Hp → Prop, (∀ σ' H', N σ' H' → ∃ m', m' < m ∧ W (i + 1) m' σ' H') ∧ ∀ x H', (Ite K a).yld i H x H' → g x σ H' fun σ2 H2 => tb { D with nx := N, ct := N, bk := D.nx } σ2 H2) := by
  refine ⟨fun i m σ H => m = xs.length - i ∧ i ≤ xs.length ∧ Pv i σ H, ⟨xs.length, by simp, Nat.zero_le _, h0⟩, ?_⟩
  rintro i m σ H ⟨rfl, hi, p⟩
  have q := hl i σ H p
  by_cases hlt : i < xs.length
  · refine .inr ⟨⟨xs, xs[i], q, by simp [hlt]⟩, Pv (i + 1), fun σ' H' p' => ⟨xs.length - (i + 1), by omega, rfl, hlt, p'⟩, fun x H' y => ?_⟩
    obtain ⟨T, z, rfl, hT, rfl, hz⟩ := y
    exact hs i z σ H T _ (hz xs q) p hT (same_upd hT) upd_same
  · have e : i = xs.length := by omega
    subst e
    exact .inl ⟨⟨xs, q, Nat.le_refl _⟩, hd σ H p⟩
end Cp
set_option Elab.async false
set_option linter.all false
set_option maxRecDepth 100000
set_option maxHeartbeats 2000000
/-! R6: sorted of a list of pairs of texts: a new list of the same pairs. -/
namespace Cp
open PySem PySem.Spec PyProof.Rows L2 Srt
section
variable {prog : Program} {w : World} {A : Around} {E : Value → Shared → Prop} {s : Shared}
def IsPS (h : Heap) (v : Value) (x y : Str) : Prop := ∃ a o t u n, v = .ref a ∧ h.get? a = some o ∧ o.cls = .type "tuple" ∧ o.data = .seq #[.str x t, .str y u] n
theorem IsPS.keeps {h h' : Heap} {v : Value} {x y : Str} (p : IsPS h v x y) (k : ∀ b o, h.get? b = some o → o.cls = .type "tuple" → h'.get? b = some o) : IsPS h' v x y := by
  obtain ⟨a, o, t, u, n, e, ho, hc, hd⟩ := p
  exact ⟨a, o, t, u, n, e, k _ _ ho hc, hc, hd⟩
def ltS (x y : Str) : Bool := decide (x.cps.toList < y.cps.toList)
theorem ps_tot {vs : List Value} (hp : ∀ v ∈ vs, ∃ x y, IsPS s.heap v x y) : Tot prog w A s (tuples' true) (fun p => p.1 ∈ vs) := by
  intro p q hm hm'
  obtain ⟨x, y, a, o, t, u, n, e, ho, hc, hd⟩ := hp _ hm
  obtain ⟨x', y', a', o', t', u', n', e', ho', hc', hd'⟩ := hp _ hm'
  rw [e, e']
  refine ⟨if x = x' then (if y = y' then false else ltS y y') else ltS x x', ?_⟩
  refine PySem.W.kat_lt ho hd ho' hd' ?_
  show PySem.W.KatLex prog w A true (decide (2 < 2)) _ [(.str x t, .str x' t'), (.str y u, .str y' u')] 0 s
  refine PySem.W.kat_cons (SeqAt.EqAt.str_str x t x' t' prog w _ _ ?_)
  refine PySem.W.kat_go (fun e1 => ?_) (fun e1 => ?_)
  · have ex : x = x' := by simpa using e1
    refine PySem.W.kat_yes (PySem.W.kat_cons (SeqAt.EqAt.str_str y u y' u' prog w _ _ ?_))
    refine PySem.W.kat_go (fun e2 => ?_) (fun e2 => ?_)
    · have ey : y = y' := by simpa using e2
      have e3 : (if x = x' then (if y = y' then false else ltS y y') else ltS x x') = false := by rw [if_pos ex, if_pos ey]
      exact PySem.W.kat_yes (PySem.W.kat_nil ⟨rfl, e3.symm⟩)
    · have ey : ¬ y = y' := by simpa using e2
      have e3 : (if x = x' then (if y = y' then false else ltS y y') else ltS x x') = ltS y y' := by rw [if_pos ex, if_neg ey]
      refine PySem.W.kat_no (PySem.W.kat_one _ _ (PyProof.Rows.lt_str ?_))
      exact (show s = s ∧ ltS y y' = (if x = x' then (if y = y' then false else ltS y y') else ltS x x') from ⟨rfl, e3.symm⟩)
  · have ex : ¬ x = x' := by simpa using e1
    have e3 : (if x = x' then (if y = y' then false else ltS y y') else ltS x x') = ltS x x' := by rw [if_neg ex]
    exact PySem.W.kat_no (oneLt_str ⟨rfl, e3.symm⟩)
theorem ps_firsts {h : Heap} : ∀ {vs : List Value}, (∀ v ∈ vs, ∃ x y, IsPS h v x y) → ∃ fs : List Value, PySem.W.KatTups h vs fs ∧ fs.length = vs.length ∧ ∀ f ∈ fs, ∃ x t, f = Value.str x t
  | [], _ => ⟨[], PySem.W.KatTups.nil, rfl, fun _ hm => by simp at hm⟩
  | v :: vs, hp => by
    obtain ⟨fs, h1, h2, h3⟩ := ps_firsts (vs := vs) fun v' hm => hp v' (List.mem_cons_of_mem _ hm)
    obtain ⟨x, y, a, o, t, u, n, e, ho, hc, hd⟩ := hp v (List.mem_cons_self ..)
    subst e
    refine ⟨.str x t :: fs, PySem.W.KatTups.cons ho hc hd rfl h1, by rw [List.length_cons, List.length_cons, h2], fun f hm => ?_⟩
    rcases List.mem_cons.mp hm with rfl | hm
    · exact ⟨x, t, rfl⟩
    · exact h3 f hm
theorem ps_sortable {a : Addr} {vs : List Value} (h0 : 0 < vs.length) (hp : ∀ v ∈ vs, ∃ x y, IsPS s.heap v x y) (ha : ∀ o, s.heap.get? a = some o → o.cls ≠ .type "tuple") : Sortable prog w A s a vs := by
  intro h' keep
  have hp' : ∀ v ∈ vs, ∃ x y, IsPS h' v x y := fun v hm => by
    obtain ⟨x, y, p⟩ := hp v hm
    exact ⟨x, y, p.keeps fun b o e c => keep b o (fun z => by subst z; exact ha o e c) e⟩
  obtain ⟨fs, h1, h2, h3⟩ := ps_firsts hp'
  refine ⟨tuples' true, fun Q E hq => ?_, ps_tot hp'⟩
  refine PySem.W.kat_kind (T := .type "str") h1 (by omega) (fun f hm => ?_) (by rfl) ?_
  · obtain ⟨x, t, rfl⟩ := h3 f hm
    exact PySem.W.Looks.now
  · have e : (Value.type "str" != Value.type "tuple") = true := by first | decide +kernel | rfl | decide
    rw [e]
    exact hq
theorem sorted_ps {l : Addr} {vs : List Value} {Q : Value → Shared → Prop} (hl : s.heap.IsList l vs.toArray) (hz : vs.length ≤ sizeLine) (hp : ∀ v ∈ vs, ∃ x y, IsPS s.heap v x y)
    (h : ∀ (h' : Heap) (d : Addr) (out : List Value), out.Perm vs → (∀ b o, s.heap.get? b = some o → h'.get? b = some o) → s.heap.objs.size ≤ d → (∃ n, h'.get? d = some (seqObj "list" out.toArray n)) → Q (.ref d) { s with heap := h' }) :
    wpAny (model prog w) A (call (.builtin "sorted") [.ref l]) Q E s := by
  refine sorted_any hl hz (fun h2 h₁ a ha k => ?_) fun out ho => ?_
  · refine ps_sortable (s := { s with heap := h₁ }) (by omega) (fun v hm => ?_) fun o e => ?_
    · obtain ⟨x, y, p⟩ := hp v hm
      exact ⟨x, y, p.keeps fun b o e _ => (k b o e).2⟩
    · have e' : some o = some (seqObj "list" vs.toArray 0) := e.symm.trans ha
      cases e'
      intro c
      exact absurd (Value.type.inj c) (by decide)
  · exact h _ _ out ho (fun b o e => sortedAll_old e) (Nat.le_succ _) (sortedAll_at s.heap vs out.toArray)
end
section
variable {X : Cx}
/-- sorted(xs), xs a list of pairs of texts: a new list of the same pairs -/
def rSortedSS (K : PySem.W.Frag) : List V → Hp → VK → Prop := fun vs H Q => ∃ a xs, vs = [V.ref a] ∧ SqL K H a xs ∧ (∀ x ∈ xs, ∃ t i j, x = V.ref t ∧ H t = some (.tup [.str i, .str j])) ∧
  ∀ ys p H', ys.Perm xs → H p = none → Same H H' → H' p = some (.lst ys) → Q (.ref p) H'
theorem cr_sortedSS : CallR X (.builtin "sorted") (rSortedSS X.K) := by
  intro pins s σ H vs us Q I r h
  obtain ⟨a, xs, rfl, hs, hx, q⟩ := h
  obtain ⟨its, rv, hl, hz⟩ := I.list hs
  obtain ⟨u, rfl, ru⟩ := vals1 r
  obtain rfl : u = Value.ref a := ru
  obtain ⟨e1, e2⟩ := refs_back rv fun x m => by
    obtain ⟨t, _, _, e, _⟩ := hx x m
    exact ⟨t, e⟩
  refine sorted_ps hl.isList (by rw [← rv.length]; exact hz) (fun v hv => ?_) fun h' d out hp k hd hn => ?_
  · obtain ⟨t, rfl⟩ := e2 v hv
    have hm : V.ref t ∈ xs := by rw [e1]; exact List.mem_map.mpr ⟨_, hv, rfl⟩
    obtain ⟨t', i, j, e, ht⟩ := hx _ hm
    cases e
    obtain ⟨_, its2, r2, o, ho, hc, n, hd⟩ := I.hok _ _ ht
    obtain ⟨u1, u2, rfl, ri, rj⟩ := vals2 r2
    obtain ⟨t1, rfl⟩ := ri
    obtain ⟨t2, rfl⟩ := rj
    exact ⟨i, j, t, o, t1, t2, n, rfl, ho, hc, hd⟩
  · have h3 : ∀ u ∈ out, ∃ a, u = Value.ref a := fun u hu => e2 u (hp.mem_iff.mp hu)
    obtain ⟨n, hn⟩ := hn
    have hf := I.hok.fresh hd
    refine ⟨.ref d, upd H d (.lst (out.map backV)), I.laid (t' := s.toks) k hd ⟨?_, out, n, vals_back h3, hn⟩, rfl, q _ d _ ?_ hf (same_upd hf) upd_same⟩
    · rw [List.length_map, hp.length_eq, ← rv.length]; exact hz
    · rw [e1]; exact hp.map backV
end
end Cp
set_option Elab.async false
set_option linter.all false
set_option maxRecDepth 100000
set_option maxHeartbeats 2000000
/-! R7: list comprehensions over a range whose item writes to an older object: the invariant tells what is kept. -/
namespace Cp
open PySem PySem.Spec PyProof.Rows L2
def LcTurnW (g : TG) (tt : TT) (te : TE) (vs : List Nat) (σ : L2.St) (P : Nat → List V → Hp → Prop) (D : Addr) (i : Nat) (x : V) (acc : List V) (H : Hp) : Prop :=
  g x (wipe σ vs) H fun σ2 H2 => wipe σ2 vs = wipe σ vs ∧ tt σ2 H2 fun b H3 => if b = true then te σ2 H3 fun y H4 => H4 D = some (.lst acc) ∧ ∀ H5, Chg D (.lst acc) H4 H5 → H5 D = some (.lst (acc ++ [y])) → P (i + 1) (acc ++ [y]) H5
    else H3 D = some (.lst acc) ∧ P (i + 1) acc H3
def LcBodyW (g : TG) (tt : TT) (te : TE) (vs : List Nat) (σ : L2.St) (H1 : Hp) (n : Nat) (at_ : Nat → V → Prop) (Q : VK) : Prop := n < sizeLine ∧ ∃ P : Nat → List V → Hp → Prop, (∀ H, Same H1 H → P 0 [] H) ∧
  (∀ D i x acc H, i < n → at_ i x → H1 D = none → H D = some (.lst acc) → P i acc H → LcTurnW g tt te vs σ P D i x acc H) ∧ ∀ D acc H, H1 D = none → H D = some (.lst acc) → P n acc H → Q (.ref D) H
def LcPW (D : Addr) (P : Nat → List V → Hp → Prop) (i : Nat) (H : Hp) : Prop := ∃ acc, H D = some (.lst acc) ∧ acc.length ≤ i ∧ P i acc H
theorem lc_turnW {g : TG} {tt : TT} {te : TE} {vs : List Nat} {σ : L2.St} {P : Nat → List V → Hp → Prop} {D : Addr} {i n : Nat} {x : V} {H : Hp} (hn : n < sizeLine) (hi : i < n) (hp : LcPW D P i H)
    (h : ∀ acc, H D = some (.lst acc) → P i acc H → LcTurnW g tt te vs σ P D i x acc H) :
    clG g x (wipe σ vs) H fun σ2 H2 => wipe σ2 vs = wipe σ vs ∧ clT tt σ2 H2 fun b H3 => if b = true then clE te σ2 H3 fun y H4 => ∃ acc, H4 D = some (.lst acc) ∧ acc.length < sizeLine ∧ LcPW D P (i + 1) (upd H4 D (.lst (acc ++ [y]))) else LcPW D P (i + 1) H3 := by
  obtain ⟨acc, e, hl, p⟩ := hp
  refine ⟨_, h acc e p, fun σ2 H2 ⟨hw, ht⟩ => ⟨hw, _, ht, fun b H3 hb => ?_⟩⟩
  cases b with
  | true =>
    rw [if_pos rfl] at hb ⊢
    refine ⟨_, hb, fun y H4 ⟨e4, h5⟩ => ⟨acc, e4, by omega, acc ++ [y], upd_same, by rw [List.length_append]; simpa using hl, h5 _ (chg_upd e4) upd_same⟩⟩
  | false =>
    rw [if_neg Bool.false_ne_true] at hb ⊢
    exact ⟨acc, hb.1, by omega, hb.2⟩
def tLcR1W (ta : TA) (g : TG) (tt : TT) (te : TE) (vs : List Nat) : TE := fun σ H Q => ta σ H fun us H1 => ∃ n : Nat, us = [.int n] ∧ LcBodyW g tt te vs σ H1 n (fun i x => x = .int i) Q
section
variable {X : Cx} {elt tg l : Expr} {ifs : List Expr} {scope : Scope} {own : List (Str × Nat)} {pos p p2 : Pos} {g : TG} {tt : TT} {te tl : TE} {ta : TA}
theorem pe_lcR1W {a : Expr} (hc : X.calm = true) (hN : X.N.Nodup) (hgl : Gl X "range") (hm : X.mg "range" = none) (ha : PA X [a] ta) (ok : BlkOk X.N X.env.scope scope own)
    (hg : ∀ (s : Shared) (H : Hp) (C : Addr) (cl : List (Str × Addr)) (fp : List Addr), PG (X.blk s H scope (compEnvC scope cl C X.env) fp) tg g) (ht : ∀ (s : Shared) (H : Hp) (C : Addr) (cl : List (Str × Addr)) (fp : List Addr), PTs (X.blk s H scope (compEnvC scope cl C X.env) fp) ifs tt)
    (he : ∀ (s : Shared) (H : Hp) (C : Addr) (cl : List (Str × Addr)) (fp : List Addr), PE (X.blk s H scope (compEnvC scope cl C X.env) fp) elt te) (hss : starEach [a] X.env = [(false, eval a X.env)] := by rfl) (hs : ∀ x, foldedSetIterable (.Call (.Name "range" p) [a] [] p2) X.env x = pure x := by intro _; rfl) :
    PE X (.ListComp elt [⟨tg, .Call (.Name "range" p) [a] [] p2, ifs, 0⟩] scope pos) (tLcR1W ta g tt te (own.map (·.2))) := by
  refine ⟨fun pins s σ H Q I h => (pe_lc hc hN (pi_range1 hgl hm (mono_A ha) hss) ok (fun a b c d e => mono_G (hg a b c d e)) (fun a b c d e => mono_Ts (ht a b c d e)) (fun a b c d e => mono_E (he a b c d e)) hs).run pins s σ H Q I ?_⟩
  refine ⟨_, h, fun us H1 ⟨n, eu, hn, P, p0, pt, pd⟩ => ?_⟩
  subst eu
  have hsl : sizeLine = 16777216 := sizeLine_eq
  refine ⟨(n : Int), rfl, by omega, by omega, fun D hD => ?_⟩
  rw [Int.toNat_natCast]
  refine lc_range (LcPW D P) ⟨[], upd_same, Nat.le_refl _, p0 _ (same_upd hD)⟩ (fun i H hi hp => ?_) (fun H ⟨acc, e, _, p⟩ => pd D acc H hD e p)
  rw [Int.zero_add]
  exact lc_turnW hn hi hp fun acc e p => pt D i _ acc H hi rfl hD e p
theorem ps_setLcR1W {i : Nat} {y : Str} {py spos : Pos} {a : Expr} (hc : X.calm = true) (hN : X.N.Nodup) (hy : X.N[i]? = some y) (hyl : X.env.scope.names.lookup y = some .local) (hsw : swapsWith (.ListComp elt [⟨tg, .Call (.Name "range" p) [a] [] p2, ifs, 0⟩] scope pos) (some (.Name y py)) spos.line X.env = pure true) (hgl : Gl X "range") (hm : X.mg "range" = none) (ha : PA X [a] ta) (ok : BlkOk X.N X.env.scope scope own)
    (hg : ∀ (s : Shared) (H : Hp) (C : Addr) (cl : List (Str × Addr)) (fp : List Addr), PG (X.blk s H scope (compEnvC scope cl C X.env) fp) tg g) (ht : ∀ (s : Shared) (H : Hp) (C : Addr) (cl : List (Str × Addr)) (fp : List Addr), PTs (X.blk s H scope (compEnvC scope cl C X.env) fp) ifs tt)
    (he : ∀ (s : Shared) (H : Hp) (C : Addr) (cl : List (Str × Addr)) (fp : List Addr), PE (X.blk s H scope (compEnvC scope cl C X.env) fp) elt te) (hss : starEach [a] X.env = [(false, eval a X.env)] := by rfl) (hs : ∀ x, foldedSetIterable (.Call (.Name "range" p) [a] [] p2) X.env x = pure x := by intro _; rfl) :
    PS X (.Assign [.Name y py] (.ListComp elt [⟨tg, .Call (.Name "range" p) [a] [] p2, ifs, 0⟩] scope pos) spos) (tAsg (tLcR1W ta g tt te (own.map (·.2))) (gName i)) := by
  refine ⟨fun pins s σ H D0 I h => (ps_setLc hc hN hy hyl hsw (pi_range1 hgl hm (mono_A ha) hss) ok (fun a b c d e => mono_G (hg a b c d e)) (fun a b c d e => mono_Ts (ht a b c d e)) (fun a b c d e => mono_E (he a b c d e)) hs).run pins s σ H D0 I ?_⟩
  refine ⟨_, h, fun us H1 ⟨n, eu, hn, P, p0, pt, pd⟩ => ?_⟩
  subst eu
  have hsl : sizeLine = 16777216 := sizeLine_eq
  refine ⟨(n : Int), rfl, by omega, by omega, fun D hD => ?_⟩
  rw [Int.toNat_natCast]
  refine lc_range (LcPW D P) ⟨[], upd_same, Nat.le_refl _, p0 _ (same_upd hD)⟩ (fun i H hi hp => ?_) (fun H ⟨acc, e, _, p⟩ => pd D acc H hD e p)
  rw [Int.zero_add]
  exact lc_turnW hn hi hp fun acc e p => pt D i _ acc H hi rfl hD e p
end
section
variable {K : PySem.W.Frag} {σ : L2.St} {H : Hp} {Q : VK} {ta : TE}
theorem w_lcR1W {ts : TA} {g : TG} {tt : TT} {te : TE} {vs : List Nat} (q : ts σ H fun us H1 => ∃ n : Nat, us = [.int n] ∧ LcBodyW g tt te vs σ H1 n (fun i x => x = .int i) Q) : tLcR1W ts g tt te vs σ H Q := q
theorem w_turnW {g : TG} {tt : TT} {te : TE} {vs : List Nat} {P : Nat → List V → Hp → Prop} {DD : Addr} {i : Nat} {x : V} {acc : List V}
  (q : g x (wipe σ vs) H fun σ2 H2 => wipe σ2 vs = wipe σ vs ∧ tt σ2 H2 fun b H3 => if b = true then te σ2 H3 fun y H4 => H4 DD = some (.lst acc) ∧ ∀ H5, Chg DD (.lst acc) H4 H5 → H5 DD = some (.lst (acc ++ [y])) → P (i + 1) (acc ++ [y]) H5
    else H3 DD = some (.lst acc) ∧ P (i + 1) acc H3) : LcTurnW g tt te vs σ P DD i x acc H := q
theorem w_sl {r : V → Option Int → Option Int → Hp → VK → Prop} {tl th : TO} (q : ta σ H fun x H1 => tl σ H1 fun l H2 => th σ H2 fun u H3 => r x l u H3 Q) : tSl r ta tl th σ H Q := q
theorem w_part {Q : Option Int → Hp → Prop} (q : ta σ H fun x H1 => ∃ i, x = .int i ∧ Q (some i) H1) : tPart ta σ H Q := q
theorem w_nopart {Q : Option Int → Hp → Prop} (q : Q none H) : tNoPart σ H Q := q
theorem w_makeS' {C : Addr} {sp : Sp} {ts : TA} (q : ts σ H fun vs H1 => ∀ x dx H2, H1 x = none → H1 dx = none → dx ≠ x → Same H1 H2 → H2 x = some (.ins C dx []) → sp (V.ref x :: vs) H2 (fun v H3 => v = .non ∧ Q (.ref x) H3) E0) : tMakeS C sp ts σ H Q := q
end
end Cp
set_option Elab.async false
set_option linter.all false
set_option maxRecDepth 100000
set_option maxHeartbeats 2000000
/-! R8: sorted of a dict whose keys are pairs of ints: a new list of the same keys. -/
namespace Cp
open PySem PySem.Spec PyProof.Rows L2 Srt
section
variable {X : Cx}
def rSortedDT : List V → Hp → VK → Prop := fun vs H Q => ∃ d kvs, vs = [V.ref d] ∧ H d = some (.dT kvs) ∧ (∀ kv ∈ kvs, ∃ i j : Int, kv.1 = [.inl i, .inl j]) ∧
  ∀ bs ys p H', IsKeys H kvs bs → ys.Perm (bs.map V.ref) → H p = none → Same H H' → H' p = some (.lst ys) → Q (.ref p) H'
theorem isKeys_pair {H : Hp} {kvs : List (List Key × V)} {bs : List Addr} (h : IsKeys H kvs bs) (hk : ∀ kv ∈ kvs, ∃ i j : Int, kv.1 = [.inl i, .inl j]) : ∀ b ∈ bs, ∃ i j : Int, H b = some (.tup [.int i, .int j]) := by
  unfold IsKeys at h
  induction h with
  | nil => intro b hb; cases hb
  | @cons a b l1 l2 r _ ih =>
    intro c hc
    rcases List.mem_cons.mp hc with rfl | hc
    · obtain ⟨i, j, e⟩ := hk a (List.mem_cons_self ..)
      rw [e] at r
      exact ⟨i, j, r⟩
    · exact ih (fun kv hkv => hk kv (List.mem_cons_of_mem _ hkv)) c hc
theorem cr_sortedDT (hc : X.calm = true) : CallR X (.builtin "sorted") rSortedDT := by
  intro pins s σ H xs us Q I r h
  obtain ⟨d, kvs, rfl, hd, hk, q⟩ := h
  obtain ⟨u, rfl, rx⟩ := r.one
  cases rx
  obtain ⟨z, hs, ks, pr, o, es, ep, ho, hx, hdt, he, hn⟩ := (show ObjOk X.prog X.w H s.heap d (.dT kvs) from I.hok _ _ hd)
  have l1 : es.size = ks.length := size_of_entries he
  have l2 : kvs.length = ks.length := Paired.length pr
  refine Calls.call_function_entry PyProof.Rows.kind_sorted PyProof.Rows.plain_sorted PyProof.Rows.entry_sorted (PyProof.Rows.args_sorted1 _) ?_
  unfold Builtin.«sorted»
  refine wpAny_bind (m := checkCount "sorted" 1 1 _) (wpAny_pure ?_)
  refine wpAny_bind (PySem.W.kdu_collect (A := X.A.in1) (kdl_raw hs hx hdt) (I.ok.hd hc) ho (by omega) fun h' tk acc' kp it => ?_)
  have ea : acc'.toList = ks.map fun x => Value.ref x.2.1 := by
    have h1 : acc'.toList.length = ks.length := by rw [Array.length_toList, it.1, l1]
    refine List.ext_getElem (by rw [h1, List.length_map]) fun j g1 g2 => ?_
    rw [List.length_map] at g2
    obtain ⟨en, hen, hv⟩ := it.2 j _ (by rw [← Array.getElem?_toList]; exact List.getElem?_eq_getElem g1)
    have qe := (entry_at he j).symm.trans hen
    rw [List.getElem?_eq_getElem g2] at qe
    have e2 : entryOfKey (tupleKind (mixKind X.prog X.w)) ks[j] = en := Option.some.inj qe
    rw [hv, ← e2, List.getElem_map]; rfl
  have hkeys := isKeys_of pr
  have hpair := isKeys_pair hkeys hk
  have eb : acc'.toList = (ks.map fun x => x.2.1).map Value.ref := by rw [ea, List.map_map]; all_goals rfl
  generalize (ks.map fun x => x.2.1) = bs at eb hkeys hpair
  have hal : acc'.toList.length ≤ sizeLine := by rw [Array.length_toList, it.1]; omega
  have I1 : Inv X pins σ H { s with heap := h', toks := tk } := I.kept kp
  refine wpAny_bind (wpAny_newList ?_ hal)
  have hoL : (h'.push (seqObj "list" acc'.toList.toArray 0)).get? h'.objs.size = some (seqObj "list" acc'.toList.toArray 0) := Heap.get?_push_size _ rfl
  show wpAny _ _ _ _ _ { s with heap := h'.push (seqObj "list" acc'.toList.toArray 0), toks := tk }
  refine wpAny_bind (wpAny_holding (wpAny_call_entry slot_list_sort ⟨_, hoL, rfl⟩ entry_list_sort
    (list_sort_any (s := { s with heap := h'.push (seqObj "list" acc'.toList.toArray 0), toks := tk }) hoL hal (fun h2 => ?_) fun out hp => ⟨_, rfl, ?_⟩) (args_list_sort _)))
  · refine pairs_sortable (by omega) (fun v hv => ?_) fun o' e => ?_
    · rw [eb] at hv
      obtain ⟨b, hb, rfl⟩ := List.mem_map.mp hv
      obtain ⟨i, j, ht⟩ := hpair b hb
      obtain ⟨_, its2, r2, ob, ho', hcl, n, hdd⟩ := I1.hok _ _ ht
      obtain ⟨u1, u2, rfl, ri, rj⟩ := vals2 r2
      obtain ⟨t1, rfl⟩ := ri
      obtain ⟨t2, rfl⟩ := rj
      exact ⟨i, j, b, ob, t1, t2, n, rfl, Heap.get?_push_of_some _ ho', hcl, hdd⟩
    · have e' : some o' = some (seqObj "list" acc'.toList.toArray 0) := e.symm.trans hoL
      cases e'
      intro c
      exact absurd (Value.type.inj c) (by decide)
  · have h3 : ∀ u ∈ out, ∃ a, u = Value.ref a := fun u hu => by
      have := hp.mem_iff.mp hu
      rw [eb] at this
      obtain ⟨b, _, rfl⟩ := List.mem_map.mp this
      exact ⟨b, rfl⟩
    obtain ⟨e', he'⟩ := PyProof.Rows.sortedHeap_at (vs := acc'.toList) (out := out.toArray) hoL
    have hf := I1.hok.fresh (Nat.le_refl h'.objs.size)
    refine wpAny_pure ⟨_, rfl, .ref h'.objs.size, upd H h'.objs.size (.lst (out.map backV)), I1.laid (t' := tk) (fun b u e => ?_) (Nat.le_refl _) ⟨?_, out, e', vals_back h3, he'⟩, rfl, q bs _ _ _ hkeys ?_ hf (same_upd hf) upd_same⟩
    · have hb : b < h'.objs.size := Heap.lt_size e
      rw [PyProof.Rows.sortedHeap_old (Nat.ne_of_lt hb) (by rw [size_push']; exact Nat.lt_succ_of_lt hb)]
      exact Heap.get?_push_of_some _ e
    · rw [List.length_map, hp.length_eq]; exact hal
    · have hm := hp.map backV
      rw [eb, List.map_map] at hm
      exact hm
end
end Cp
set_option Elab.async false
set_option linter.all false
set_option maxRecDepth 100000
set_option maxHeartbeats 2000000
/-! B0: the text's defs, their scopes, what is known of the module behind its top (printed by genb.py). -/
namespace Cp
open PySem PySem.Spec PyProof.Rows L2
def top (i : Nat) : Stmt := (PySem.Challenge.pw_carpets_k59_whole_parts_repainted_one_by.main.body).getD i (.Pass ⟨0, 0, 0, 0⟩)
def clsB (s : Stmt) : List Stmt := match s with
  | .ClassDef (body := b) .. => b
  | _ => []
def inC (i j : Nat) : Stmt := (clsB (top i)).getD j (.Pass ⟨0, 0, 0, 0⟩)

abbrev sis_integer : Stmt := top 11
abbrev sis_place : Stmt := top 12
abbrev scheck_place : Stmt := top 13
abbrev sgreatest_divisor : Stmt := top 14
abbrev sdivisors : Stmt := top 16
abbrev splus : Stmt := top 17
abbrev sminus : Stmt := top 18
abbrev sform_of : Stmt := top 23
abbrev sare_numbers : Stmt := top 24
abbrev sNet___init__ : Stmt := inC 26 0
abbrev sNet_whole : Stmt := inC 26 2
abbrev sNet_numbers : Stmt := inC 26 3
abbrev sNet_size : Stmt := inC 26 4
abbrev sNet_place_in_cell : Stmt := inC 26 6
abbrev sNet___contains__ : Stmt := inC 26 7
abbrev sNet___eq__ : Stmt := inC 26 11
abbrev sNet_spots : Stmt := inC 26 15
abbrev sNet_cell : Stmt := inC 26 16
abbrev sis_colour : Stmt := top 32
abbrev scheck_colour : Stmt := top 33
abbrev sis_row : Stmt := top 34
abbrev scheck_rows : Stmt := top 35
abbrev schecked_block : Stmt := top 36
abbrev scolour_at : Stmt := top 37
abbrev sis_kept : Stmt := top 38
abbrev skept_net : Stmt := top 39
abbrev sleast_cell : Stmt := top 40
abbrev sCarpet___init__ : Stmt := inC 41 0
abbrev sCarpet_on : Stmt := inC 41 1
abbrev sCarpet_plain : Stmt := inC 41 2
abbrev sCarpet_net : Stmt := inC 41 3
abbrev sCarpet_text : Stmt := inC 41 4
abbrev sCarpet_seen : Stmt := inC 41 7
abbrev sCarpet___getitem__ : Stmt := inC 41 8
abbrev sCarpet___len__ : Stmt := inC 41 10
abbrev sCarpet___eq__ : Stmt := inC 41 11
abbrev sWoven___init__ : Stmt := inC 42 0
abbrev sneighbours : Stmt := top 45
abbrev sline_basis : Stmt := top 46
abbrev sbasis_of : Stmt := top 47
abbrev sPart___init__ : Stmt := inC 48 0
abbrev sPart_colour : Stmt := inC 48 1
abbrev sPart_start : Stmt := inC 48 2
abbrev sPart_places : Stmt := inC 48 3
abbrev sPart_size : Stmt := inC 48 5
abbrev sPart_border : Stmt := inC 48 6
abbrev sPart_net : Stmt := inC 48 7
abbrev sPart_carries : Stmt := inC 48 9
abbrev spart_from : Stmt := top 49
abbrev sparts : Stmt := top 50
abbrev spart_at : Stmt := top 51
abbrev stouching : Stmt := top 52
abbrev srepainted : Stmt := top 53
abbrev sare_joined : Stmt := top 54
abbrev s_law_tape : Stmt := top 56
abbrev s_law_draw : Stmt := top 57
abbrev s_law_low : Stmt := top 58
abbrev s_law_spots : Stmt := top 59
abbrev s_law_seen : Stmt := top 60
abbrev s_law_net : Stmt := top 61
abbrev s_law_turned : Stmt := top 62
abbrev s_law_kinds : Stmt := top 63
abbrev s_law_carried : Stmt := top 64
abbrev s_law_divisor : Stmt := top 65
abbrev s_law_net_of : Stmt := top 66
abbrev s_law_keeps : Stmt := top 67
abbrev s_law_move : Stmt := top 68
abbrev s_law_tied : Stmt := top 69
abbrev s_law_letters : Stmt := top 70
abbrev s_law_square : Stmt := top 71
abbrev s_law_copied : Stmt := top 72
abbrev s_law_woven : Stmt := top 73
abbrev s_law_exact : Stmt := top 74
abbrev s_law_made : Stmt := top 75
abbrev s_law_is_kept : Stmt := top 76
abbrev s_law_least : Stmt := top 77
abbrev s_law_near : Stmt := top 78
abbrev s_law_gone : Stmt := top 79
abbrev s_law_edge : Stmt := top 80
abbrev s_law_borders_right : Stmt := top 81
abbrev s_law_neighbour : Stmt := top 82
abbrev s_law_joins : Stmt := top 83
abbrev slaw : Stmt := top 84
abbrev Nis_integer : List Str := ["value"]
abbrev Pis_integer : List Str := ["value"]
abbrev Nis_place : List Str := ["value", "number"]
abbrev Pis_place : List Str := ["value"]
abbrev Ncheck_place : List Str := ["value"]
abbrev Pcheck_place : List Str := ["value"]
abbrev Ngreatest_divisor : List Str := ["one", "other"]
abbrev Pgreatest_divisor : List Str := ["one", "other"]
abbrev Ndivisors : List Str := ["number", "divisor"]
abbrev Pdivisors : List Str := ["number"]
abbrev Nplus : List Str := ["one", "other"]
abbrev Pplus : List Str := ["one", "other"]
abbrev Nminus : List Str := ["one", "other"]
abbrev Pminus : List Str := ["one", "other"]
abbrev Nform_of : List Str := ["shifts", "a", "b", "c", "x", "y", "times"]
abbrev Pform_of : List Str := ["shifts"]
abbrev Nare_numbers : List Str := ["numbers", "a", "b", "c", "number"]
abbrev Pare_numbers : List Str := ["numbers"]
abbrev NNet___init__ : List Str := ["self", "a", "b", "c"]
abbrev PNet___init__ : List Str := ["self", "a", "b", "c"]
abbrev NNet_whole : List Str := ["cls"]
abbrev PNet_whole : List Str := ["cls"]
abbrev NNet_numbers : List Str := ["self"]
abbrev PNet_numbers : List Str := ["self"]
abbrev NNet_size : List Str := ["self"]
abbrev PNet_size : List Str := ["self"]
abbrev NNet_place_in_cell : List Str := ["self", "place", "a", "b", "c", "rows"]
abbrev PNet_place_in_cell : List Str := ["self", "place"]
abbrev NNet___contains__ : List Str := ["self", "value"]
abbrev PNet___contains__ : List Str := ["self", "value"]
abbrev NNet___eq__ : List Str := ["self", "other"]
abbrev PNet___eq__ : List Str := ["self", "other"]
abbrev NNet_spots : List Str := ["self", "a", "b", "c", "x", "y"]
abbrev PNet_spots : List Str := ["self"]
abbrev NNet_cell : List Str := ["self", "a", "b", "c", "y", "x"]
abbrev PNet_cell : List Str := ["self"]
abbrev Nis_colour : List Str := ["value"]
abbrev Pis_colour : List Str := ["value"]
abbrev Ncheck_colour : List Str := ["value"]
abbrev Pcheck_colour : List Str := ["value"]
abbrev Nis_row : List Str := ["value", "signs", "most", "sign"]
abbrev Pis_row : List Str := ["value", "signs", "most"]
abbrev Ncheck_rows : List Str := ["rows", "signs", "most", "index", "row"]
abbrev Pcheck_rows : List Str := ["rows", "signs", "most"]
abbrev Nchecked_block : List Str := ["rows", "shift", "width"]
abbrev Pchecked_block : List Str := ["rows", "shift"]
abbrev Ncolour_at : List Str := ["net", "text", "place", "x", "y"]
abbrev Pcolour_at : List Str := ["net", "text", "place"]
abbrev Nis_kept : List Str := ["net", "text", "shift", "place"]
abbrev Pis_kept : List Str := ["net", "text", "shift"]
abbrev Nkept_net : List Str := ["net", "text", "a", "b", "c", "width", "rows", "right", "number"]
abbrev Pkept_net : List Str := ["net", "text"]
abbrev Nleast_cell : List Str := ["net", "text", "least", "place"]
abbrev Pleast_cell : List Str := ["net", "text"]
abbrev NCarpet___init__ : List Str := ["self", "rows", "shift", "net", "text"]
abbrev PCarpet___init__ : List Str := ["self", "rows", "shift"]
abbrev NCarpet_on : List Str := ["net", "text"]
abbrev PCarpet_on : List Str := ["net", "text"]
abbrev NCarpet_plain : List Str := ["cls", "colour"]
abbrev PCarpet_plain : List Str := ["cls", "colour"]
abbrev NCarpet_net : List Str := ["self"]
abbrev PCarpet_net : List Str := ["self"]
abbrev NCarpet_text : List Str := ["self"]
abbrev PCarpet_text : List Str := ["self"]
abbrev NCarpet_seen : List Str := ["self", "place"]
abbrev PCarpet_seen : List Str := ["self", "place"]
abbrev NCarpet___getitem__ : List Str := ["self", "place"]
abbrev PCarpet___getitem__ : List Str := ["self", "place"]
abbrev NCarpet___len__ : List Str := ["self"]
abbrev PCarpet___len__ : List Str := ["self"]
abbrev NCarpet___eq__ : List Str := ["self", "other"]
abbrev PCarpet___eq__ : List Str := ["self", "other"]
abbrev NWoven___init__ : List Str := ["self", "net", "text"]
abbrev PWoven___init__ : List Str := ["self", "net", "text"]
abbrev Nneighbours : List Str := ["place", "step"]
abbrev Pneighbours : List Str := ["place"]
abbrev Nline_basis : List Str := ["shifts", "x", "y", "right", "up", "times"]
abbrev Pline_basis : List Str := ["shifts"]
abbrev Nbasis_of : List Str := ["shifts", "numbers", "a", "b", "c"]
abbrev Pbasis_of : List Str := ["shifts"]
abbrev NPart___init__ : List Str := ["self", "colour", "start", "places", "shifts", "border"]
abbrev PPart___init__ : List Str := ["self", "colour", "start", "places", "shifts", "border"]
abbrev NPart_colour : List Str := ["self"]
abbrev PPart_colour : List Str := ["self"]
abbrev NPart_start : List Str := ["self"]
abbrev PPart_start : List Str := ["self"]
abbrev NPart_places : List Str := ["self"]
abbrev PPart_places : List Str := ["self"]
abbrev NPart_size : List Str := ["self"]
abbrev PPart_size : List Str := ["self"]
abbrev NPart_border : List Str := ["self"]
abbrev PPart_border : List Str := ["self"]
abbrev NPart_net : List Str := ["self", "one", "other"]
abbrev PPart_net : List Str := ["self"]
abbrev NPart_carries : List Str := ["self", "shift", "net", "x", "y", "times"]
abbrev PPart_carries : List Str := ["self", "shift"]
abbrev Npart_from : List Str := ["carpet", "start", "net", "colour", "known", "waiting", "shifts", "border", "near", "spot"]
abbrev Ppart_from : List Str := ["carpet", "start"]
abbrev Nparts : List Str := ["carpet", "found", "known", "place", "part", "spot"]
abbrev Pparts : List Str := ["carpet"]
abbrev Npart_at : List Str := ["carpet", "place", "spot", "part"]
abbrev Ppart_at : List Str := ["carpet", "place"]
abbrev Ntouching : List Str := ["carpet", "found", "place", "near", "pair"]
abbrev Ptouching : List Str := ["carpet"]
abbrev Nrepainted : List Str := ["carpet", "place", "colour", "known", "letters", "spot"]
abbrev Prepainted : List Str := ["carpet", "place", "colour"]
abbrev Nare_joined : List Str := ["carpet", "first", "second", "part", "spot", "one"]
abbrev Pare_joined : List Str := ["carpet", "first", "second"]
abbrev N_law_tape : List Str := ["_law_script"]
abbrev P_law_tape : List Str := ["_law_script"]
abbrev N_law_draw : List Str := ["_law_tape_here", "_law_many", "_law_digit", "_law_cell", "_law_near_here"]
abbrev P_law_draw : List Str := ["_law_tape_here", "_law_many"]
abbrev N_law_low : List Str := ["_law_net_here", "_law_place", "_law_times"]
abbrev P_law_low : List Str := ["_law_net_here", "_law_place"]
abbrev N_law_spots : List Str := ["_law_net_here", "_law_at"]
abbrev P_law_spots : List Str := ["_law_net_here"]
abbrev N_law_seen : List Str := ["_law_net_here", "_law_text", "_law_place", "_law_x", "_law_y"]
abbrev P_law_seen : List Str := ["_law_net_here", "_law_text", "_law_place"]
abbrev N_law_net : List Str := ["_law_tape_here", "_law_most", "_law_wide"]
abbrev P_law_net : List Str := ["_law_tape_here", "_law_most"]
abbrev N_law_turned : List Str := ["_law_kind", "_law_place", "_law_x", "_law_y"]
abbrev P_law_turned : List Str := ["_law_kind", "_law_place"]
abbrev N_law_kinds : List Str := []
abbrev P_law_kinds : List Str := []
abbrev N_law_carried : List Str := ["_law_move_here", "_law_place", "_law_x", "_law_y"]
abbrev P_law_carried : List Str := ["_law_move_here", "_law_place"]
abbrev N_law_divisor : List Str := ["_law_one", "_law_other"]
abbrev P_law_divisor : List Str := ["_law_one", "_law_other"]
abbrev N_law_net_of : List Str := ["_law_shifts", "_law_wide", "_law_low_here", "_law_one", "_law_far", "_law_times"]
abbrev P_law_net_of : List Str := ["_law_shifts"]
abbrev N_law_keeps : List Str := ["_law_net_here", "_law_kind", "_law_rows", "_law_row"]
abbrev P_law_keeps : List Str := ["_law_net_here", "_law_kind"]
abbrev N_law_move : List Str := ["_law_tape_here", "_law_net_here", "_law_some", "_law_kind"]
abbrev P_law_move : List Str := ["_law_tape_here", "_law_net_here"]
abbrev N_law_tied : List Str := ["_law_net_here", "_law_text", "_law_moves", "_law_spots_here", "_law_found", "_law_spot", "_law_line", "_law_here", "_law_move_here"]
abbrev P_law_tied : List Str := ["_law_net_here", "_law_text", "_law_moves"]
abbrev N_law_letters : List Str := ["_law_tape_here", "_law_many", "_law_some", "_law_k"]
abbrev P_law_letters : List Str := ["_law_tape_here", "_law_many"]
abbrev N_law_square : List Str := ["_law_tape_here", "_law_most", "_law_side", "_law_some", "_law_net_here"]
abbrev P_law_square : List Str := ["_law_tape_here", "_law_most"]
abbrev N_law_copied : List Str := ["_law_tape_here", "_law_net_here", "_law_text", "_law_most", "_law_wide", "_law_high", "_law_larger", "_law_spot"]
abbrev P_law_copied : List Str := ["_law_tape_here", "_law_net_here", "_law_text", "_law_most"]
abbrev N_law_woven : List Str := ["_law_tape_here", "_law_most", "_law_way", "_law_net_here", "_law_moves", "_law_slope", "_law_line", "_law_size", "_law_k", "_law_x", "_law_y"]
abbrev P_law_woven : List Str := ["_law_tape_here", "_law_most"]
abbrev N_law_exact : List Str := ["_law_net_here", "_law_text", "_law_kept", "_law_one", "_law_least_here", "_law_spot"]
abbrev P_law_exact : List Str := ["_law_net_here", "_law_text"]
abbrev N_law_made : List Str := ["_law_tape_here", "_law_net_here", "_law_text", "_law_rows", "_law_k"]
abbrev P_law_made : List Str := ["_law_tape_here", "_law_net_here", "_law_text"]
abbrev N_law_is_kept : List Str := ["_law_net_here", "_law_text", "_law_move_here", "_law_spot"]
abbrev P_law_is_kept : List Str := ["_law_net_here", "_law_text", "_law_move_here"]
abbrev N_law_least : List Str := ["_law_tape_here", "_law_most", "_law_net_here", "_law_text"]
abbrev P_law_least : List Str := ["_law_tape_here", "_law_most"]
abbrev N_law_near : List Str := ["_law_place"]
abbrev P_law_near : List Str := ["_law_place"]
abbrev N_law_gone : List Str := ["_law_net_here", "_law_text", "_law_start", "_law_found", "_law_line", "_law_rounds", "_law_here", "_law_there", "_law_low_here"]
abbrev P_law_gone : List Str := ["_law_net_here", "_law_text", "_law_start"]
abbrev N_law_edge : List Str := ["_law_net_here", "_law_text", "_law_spots_here", "_law_many", "_law_spot", "_law_one"]
abbrev P_law_edge : List Str := ["_law_net_here", "_law_text", "_law_spots_here"]
abbrev N_law_borders_right : List Str := ["_law_made_here", "_law_net_here", "_law_text", "_law_told", "_law_one"]
abbrev P_law_borders_right : List Str := ["_law_made_here", "_law_net_here", "_law_text"]
abbrev N_law_neighbour : List Str := ["_law_net_here", "_law_text", "_law_start", "_law_places", "_law_spot", "_law_one"]
abbrev P_law_neighbour : List Str := ["_law_net_here", "_law_text", "_law_start"]
abbrev N_law_joins : List Str := ["_law_made_here", "_law_net_here", "_law_text", "_law_one", "_law_pair", "_law_found", "_law_other", "_law_whole"]
abbrev P_law_joins : List Str := ["_law_made_here", "_law_net_here", "_law_text", "_law_one"]
abbrev Nlaw : List Str := ["_law_script", "_law_tape_here", "_law_turn", "_law_net_here", "_law_text", "_law_made_here", "_law_found", "_law_one"]
abbrev Plaw : List Str := ["_law_script"]

theorem sc_is_integer : FnScope Nis_integer Pis_integer (defScope sis_integer) := ⟨rfl, rfl, rfl, by decide +kernel, rfl, by decide +kernel, by decide +kernel⟩
theorem sc_is_place : FnScope Nis_place Pis_place (defScope sis_place) := ⟨rfl, rfl, rfl, by decide +kernel, rfl, by decide +kernel, by decide +kernel⟩
theorem sc_check_place : FnScope Ncheck_place Pcheck_place (defScope scheck_place) := ⟨rfl, rfl, rfl, by decide +kernel, rfl, by decide +kernel, by decide +kernel⟩
theorem sc_greatest_divisor : FnScope Ngreatest_divisor Pgreatest_divisor (defScope sgreatest_divisor) := ⟨rfl, rfl, rfl, by decide +kernel, rfl, by decide +kernel, by decide +kernel⟩
theorem sc_divisors : FnScope Ndivisors Pdivisors (defScope sdivisors) := ⟨rfl, rfl, rfl, by decide +kernel, rfl, by decide +kernel, by decide +kernel⟩
theorem sc_plus : FnScope Nplus Pplus (defScope splus) := ⟨rfl, rfl, rfl, by decide +kernel, rfl, by decide +kernel, by decide +kernel⟩
theorem sc_minus : FnScope Nminus Pminus (defScope sminus) := ⟨rfl, rfl, rfl, by decide +kernel, rfl, by decide +kernel, by decide +kernel⟩
theorem sc_form_of : FnScope Nform_of Pform_of (defScope sform_of) := ⟨rfl, rfl, rfl, by decide +kernel, rfl, by decide +kernel, by decide +kernel⟩
theorem sc_are_numbers : FnScope Nare_numbers Pare_numbers (defScope sare_numbers) := ⟨rfl, rfl, rfl, by decide +kernel, rfl, by decide +kernel, by decide +kernel⟩
theorem sc_Net___init__ : FnScope NNet___init__ PNet___init__ (defScope sNet___init__) := ⟨rfl, rfl, rfl, by decide +kernel, rfl, by decide +kernel, by decide +kernel⟩
theorem sc_Net_whole : FnScope NNet_whole PNet_whole (defScope sNet_whole) := ⟨rfl, rfl, rfl, by decide +kernel, rfl, by decide +kernel, by decide +kernel⟩
theorem sc_Net_numbers : FnScope NNet_numbers PNet_numbers (defScope sNet_numbers) := ⟨rfl, rfl, rfl, by decide +kernel, rfl, by decide +kernel, by decide +kernel⟩
theorem sc_Net_size : FnScope NNet_size PNet_size (defScope sNet_size) := ⟨rfl, rfl, rfl, by decide +kernel, rfl, by decide +kernel, by decide +kernel⟩
theorem sc_Net_place_in_cell : FnScope NNet_place_in_cell PNet_place_in_cell (defScope sNet_place_in_cell) := ⟨rfl, rfl, rfl, by decide +kernel, rfl, by decide +kernel, by decide +kernel⟩
theorem sc_Net___contains__ : FnScope NNet___contains__ PNet___contains__ (defScope sNet___contains__) := ⟨rfl, rfl, rfl, by decide +kernel, rfl, by decide +kernel, by decide +kernel⟩
theorem sc_Net___eq__ : FnScope NNet___eq__ PNet___eq__ (defScope sNet___eq__) := ⟨rfl, rfl, rfl, by decide +kernel, rfl, by decide +kernel, by decide +kernel⟩
theorem sc_Net_spots : FnScope NNet_spots PNet_spots (defScope sNet_spots) := ⟨rfl, rfl, rfl, by decide +kernel, rfl, by decide +kernel, by decide +kernel⟩
theorem sc_is_colour : FnScope Nis_colour Pis_colour (defScope sis_colour) := ⟨rfl, rfl, rfl, by decide +kernel, rfl, by decide +kernel, by decide +kernel⟩
theorem sc_check_colour : FnScope Ncheck_colour Pcheck_colour (defScope scheck_colour) := ⟨rfl, rfl, rfl, by decide +kernel, rfl, by decide +kernel, by decide +kernel⟩
theorem sc_is_row : FnScope Nis_row Pis_row (defScope sis_row) := ⟨rfl, rfl, rfl, by decide +kernel, rfl, by decide +kernel, by decide +kernel⟩
theorem sc_check_rows : FnScope Ncheck_rows Pcheck_rows (defScope scheck_rows) := ⟨rfl, rfl, rfl, by decide +kernel, rfl, by decide +kernel, by decide +kernel⟩
theorem sc_checked_block : FnScope Nchecked_block Pchecked_block (defScope schecked_block) := ⟨rfl, rfl, rfl, by decide +kernel, rfl, by decide +kernel, by decide +kernel⟩
theorem sc_colour_at : FnScope Ncolour_at Pcolour_at (defScope scolour_at) := ⟨rfl, rfl, rfl, by decide +kernel, rfl, by decide +kernel, by decide +kernel⟩
theorem sc_is_kept : FnScope Nis_kept Pis_kept (defScope sis_kept) := ⟨rfl, rfl, rfl, by decide +kernel, rfl, by decide +kernel, by decide +kernel⟩
theorem sc_kept_net : FnScope Nkept_net Pkept_net (defScope skept_net) := ⟨rfl, rfl, rfl, by decide +kernel, rfl, by decide +kernel, by decide +kernel⟩
theorem sc_least_cell : FnScope Nleast_cell Pleast_cell (defScope sleast_cell) := ⟨rfl, rfl, rfl, by decide +kernel, rfl, by decide +kernel, by decide +kernel⟩
theorem sc_Carpet___init__ : FnScope NCarpet___init__ PCarpet___init__ (defScope sCarpet___init__) := ⟨rfl, rfl, rfl, by decide +kernel, rfl, by decide +kernel, by decide +kernel⟩
theorem sc_Carpet_on : FnScope NCarpet_on PCarpet_on (defScope sCarpet_on) := ⟨rfl, rfl, rfl, by decide +kernel, rfl, by decide +kernel, by decide +kernel⟩
theorem sc_Carpet_plain : FnScope NCarpet_plain PCarpet_plain (defScope sCarpet_plain) := ⟨rfl, rfl, rfl, by decide +kernel, rfl, by decide +kernel, by decide +kernel⟩
theorem sc_Carpet_net : FnScope NCarpet_net PCarpet_net (defScope sCarpet_net) := ⟨rfl, rfl, rfl, by decide +kernel, rfl, by decide +kernel, by decide +kernel⟩
theorem sc_Carpet_text : FnScope NCarpet_text PCarpet_text (defScope sCarpet_text) := ⟨rfl, rfl, rfl, by decide +kernel, rfl, by decide +kernel, by decide +kernel⟩
theorem sc_Carpet_seen : FnScope NCarpet_seen PCarpet_seen (defScope sCarpet_seen) := ⟨rfl, rfl, rfl, by decide +kernel, rfl, by decide +kernel, by decide +kernel⟩
theorem sc_Carpet___getitem__ : FnScope NCarpet___getitem__ PCarpet___getitem__ (defScope sCarpet___getitem__) := ⟨rfl, rfl, rfl, by decide +kernel, rfl, by decide +kernel, by decide +kernel⟩
theorem sc_Carpet___len__ : FnScope NCarpet___len__ PCarpet___len__ (defScope sCarpet___len__) := ⟨rfl, rfl, rfl, by decide +kernel, rfl, by decide +kernel, by decide +kernel⟩
theorem sc_Carpet___eq__ : FnScope NCarpet___eq__ PCarpet___eq__ (defScope sCarpet___eq__) := ⟨rfl, rfl, rfl, by decide +kernel, rfl, by decide +kernel, by decide +kernel⟩
theorem sc_Woven___init__ : FnScope NWoven___init__ PWoven___init__ (defScope sWoven___init__) := ⟨rfl, rfl, rfl, by decide +kernel, rfl, by decide +kernel, by decide +kernel⟩
theorem sc_neighbours : FnScope Nneighbours Pneighbours (defScope sneighbours) := ⟨rfl, rfl, rfl, by decide +kernel, rfl, by decide +kernel, by decide +kernel⟩
theorem sc_line_basis : FnScope Nline_basis Pline_basis (defScope sline_basis) := ⟨rfl, rfl, rfl, by decide +kernel, rfl, by decide +kernel, by decide +kernel⟩
theorem sc_basis_of : FnScope Nbasis_of Pbasis_of (defScope sbasis_of) := ⟨rfl, rfl, rfl, by decide +kernel, rfl, by decide +kernel, by decide +kernel⟩
theorem sc_Part___init__ : FnScope NPart___init__ PPart___init__ (defScope sPart___init__) := ⟨rfl, rfl, rfl, by decide +kernel, rfl, by decide +kernel, by decide +kernel⟩
theorem sc_Part_colour : FnScope NPart_colour PPart_colour (defScope sPart_colour) := ⟨rfl, rfl, rfl, by decide +kernel, rfl, by decide +kernel, by decide +kernel⟩
theorem sc_Part_start : FnScope NPart_start PPart_start (defScope sPart_start) := ⟨rfl, rfl, rfl, by decide +kernel, rfl, by decide +kernel, by decide +kernel⟩
theorem sc_Part_places : FnScope NPart_places PPart_places (defScope sPart_places) := ⟨rfl, rfl, rfl, by decide +kernel, rfl, by decide +kernel, by decide +kernel⟩
theorem sc_Part_size : FnScope NPart_size PPart_size (defScope sPart_size) := ⟨rfl, rfl, rfl, by decide +kernel, rfl, by decide +kernel, by decide +kernel⟩
theorem sc_Part_border : FnScope NPart_border PPart_border (defScope sPart_border) := ⟨rfl, rfl, rfl, by decide +kernel, rfl, by decide +kernel, by decide +kernel⟩
theorem sc_Part_net : FnScope NPart_net PPart_net (defScope sPart_net) := ⟨rfl, rfl, rfl, by decide +kernel, rfl, by decide +kernel, by decide +kernel⟩
theorem sc_Part_carries : FnScope NPart_carries PPart_carries (defScope sPart_carries) := ⟨rfl, rfl, rfl, by decide +kernel, rfl, by decide +kernel, by decide +kernel⟩
theorem sc_part_from : FnScope Npart_from Ppart_from (defScope spart_from) := ⟨rfl, rfl, rfl, by decide +kernel, rfl, by decide +kernel, by decide +kernel⟩
theorem sc_parts : FnScope Nparts Pparts (defScope sparts) := ⟨rfl, rfl, rfl, by decide +kernel, rfl, by decide +kernel, by decide +kernel⟩
theorem sc_part_at : FnScope Npart_at Ppart_at (defScope spart_at) := ⟨rfl, rfl, rfl, by decide +kernel, rfl, by decide +kernel, by decide +kernel⟩
theorem sc_touching : FnScope Ntouching Ptouching (defScope stouching) := ⟨rfl, rfl, rfl, by decide +kernel, rfl, by decide +kernel, by decide +kernel⟩
theorem sc_repainted : FnScope Nrepainted Prepainted (defScope srepainted) := ⟨rfl, rfl, rfl, by decide +kernel, rfl, by decide +kernel, by decide +kernel⟩
theorem sc_are_joined : FnScope Nare_joined Pare_joined (defScope sare_joined) := ⟨rfl, rfl, rfl, by decide +kernel, rfl, by decide +kernel, by decide +kernel⟩
theorem sc__law_tape : FnScope N_law_tape P_law_tape (defScope s_law_tape) := ⟨rfl, rfl, rfl, by decide +kernel, rfl, by decide +kernel, by decide +kernel⟩
theorem sc__law_draw : FnScope N_law_draw P_law_draw (defScope s_law_draw) := ⟨rfl, rfl, rfl, by decide +kernel, rfl, by decide +kernel, by decide +kernel⟩
theorem sc__law_low : FnScope N_law_low P_law_low (defScope s_law_low) := ⟨rfl, rfl, rfl, by decide +kernel, rfl, by decide +kernel, by decide +kernel⟩
theorem sc__law_spots : FnScope N_law_spots P_law_spots (defScope s_law_spots) := ⟨rfl, rfl, rfl, by decide +kernel, rfl, by decide +kernel, by decide +kernel⟩
theorem sc__law_seen : FnScope N_law_seen P_law_seen (defScope s_law_seen) := ⟨rfl, rfl, rfl, by decide +kernel, rfl, by decide +kernel, by decide +kernel⟩
theorem sc__law_net : FnScope N_law_net P_law_net (defScope s_law_net) := ⟨rfl, rfl, rfl, by decide +kernel, rfl, by decide +kernel, by decide +kernel⟩
theorem sc__law_turned : FnScope N_law_turned P_law_turned (defScope s_law_turned) := ⟨rfl, rfl, rfl, by decide +kernel, rfl, by decide +kernel, by decide +kernel⟩
theorem sc__law_kinds : FnScope N_law_kinds P_law_kinds (defScope s_law_kinds) := ⟨rfl, rfl, rfl, by decide +kernel, rfl, by decide +kernel, by decide +kernel⟩
theorem sc__law_carried : FnScope N_law_carried P_law_carried (defScope s_law_carried) := ⟨rfl, rfl, rfl, by decide +kernel, rfl, by decide +kernel, by decide +kernel⟩
theorem sc__law_divisor : FnScope N_law_divisor P_law_divisor (defScope s_law_divisor) := ⟨rfl, rfl, rfl, by decide +kernel, rfl, by decide +kernel, by decide +kernel⟩
theorem sc__law_net_of : FnScope N_law_net_of P_law_net_of (defScope s_law_net_of) := ⟨rfl, rfl, rfl, by decide +kernel, rfl, by decide +kernel, by decide +kernel⟩
theorem sc__law_keeps : FnScope N_law_keeps P_law_keeps (defScope s_law_keeps) := ⟨rfl, rfl, rfl, by decide +kernel, rfl, by decide +kernel, by decide +kernel⟩
theorem sc__law_move : FnScope N_law_move P_law_move (defScope s_law_move) := ⟨rfl, rfl, rfl, by decide +kernel, rfl, by decide +kernel, by decide +kernel⟩
theorem sc__law_tied : FnScope N_law_tied P_law_tied (defScope s_law_tied) := ⟨rfl, rfl, rfl, by decide +kernel, rfl, by decide +kernel, by decide +kernel⟩
theorem sc__law_letters : FnScope N_law_letters P_law_letters (defScope s_law_letters) := ⟨rfl, rfl, rfl, by decide +kernel, rfl, by decide +kernel, by decide +kernel⟩
theorem sc__law_square : FnScope N_law_square P_law_square (defScope s_law_square) := ⟨rfl, rfl, rfl, by decide +kernel, rfl, by decide +kernel, by decide +kernel⟩
theorem sc__law_copied : FnScope N_law_copied P_law_copied (defScope s_law_copied) := ⟨rfl, rfl, rfl, by decide +kernel, rfl, by decide +kernel, by decide +kernel⟩
theorem sc__law_woven : FnScope N_law_woven P_law_woven (defScope s_law_woven) := ⟨rfl, rfl, rfl, by decide +kernel, rfl, by decide +kernel, by decide +kernel⟩
theorem sc__law_exact : FnScope N_law_exact P_law_exact (defScope s_law_exact) := ⟨rfl, rfl, rfl, by decide +kernel, rfl, by decide +kernel, by decide +kernel⟩
theorem sc__law_made : FnScope N_law_made P_law_made (defScope s_law_made) := ⟨rfl, rfl, rfl, by decide +kernel, rfl, by decide +kernel, by decide +kernel⟩
theorem sc__law_is_kept : FnScope N_law_is_kept P_law_is_kept (defScope s_law_is_kept) := ⟨rfl, rfl, rfl, by decide +kernel, rfl, by decide +kernel, by decide +kernel⟩
theorem sc__law_least : FnScope N_law_least P_law_least (defScope s_law_least) := ⟨rfl, rfl, rfl, by decide +kernel, rfl, by decide +kernel, by decide +kernel⟩
theorem sc__law_near : FnScope N_law_near P_law_near (defScope s_law_near) := ⟨rfl, rfl, rfl, by decide +kernel, rfl, by decide +kernel, by decide +kernel⟩
theorem sc__law_gone : FnScope N_law_gone P_law_gone (defScope s_law_gone) := ⟨rfl, rfl, rfl, by decide +kernel, rfl, by decide +kernel, by decide +kernel⟩
theorem sc__law_edge : FnScope N_law_edge P_law_edge (defScope s_law_edge) := ⟨rfl, rfl, rfl, by decide +kernel, rfl, by decide +kernel, by decide +kernel⟩
theorem sc__law_borders_right : FnScope N_law_borders_right P_law_borders_right (defScope s_law_borders_right) := ⟨rfl, rfl, rfl, by decide +kernel, rfl, by decide +kernel, by decide +kernel⟩
theorem sc__law_neighbour : FnScope N_law_neighbour P_law_neighbour (defScope s_law_neighbour) := ⟨rfl, rfl, rfl, by decide +kernel, rfl, by decide +kernel, by decide +kernel⟩
theorem sc__law_joins : FnScope N_law_joins P_law_joins (defScope s_law_joins) := ⟨rfl, rfl, rfl, by decide +kernel, rfl, by decide +kernel, by decide +kernel⟩
theorem sc_law : FnScope Nlaw Plaw (defScope slaw) := ⟨rfl, rfl, rfl, by decide +kernel, rfl, by decide +kernel, by decide +kernel⟩
theorem sc_Net_cell : GScope NNet_cell PNet_cell (defScope sNet_cell) := ⟨rfl, rfl, rfl, by decide +kernel, rfl, by decide +kernel, by decide +kernel⟩

/-- a def without defaults stands at f -/
def Fd (K : PySem.W.Frag) (x qual : Str) (st : Stmt) (f : Addr) : Prop := ∃ fd, FunD K x qual (defArgs st) (defBody st) (defScope st) [] [] f fd
theorem Fd.kp {K : PySem.W.Frag} {x qual : Str} {st : Stmt} {f : Addr} (h : Fd K x qual st f) : PySem.W.keepIn K (.ref f) = true := let ⟨_, F⟩ := h; F.kp
/-- the class of a carpet -/
def CarC (K : PySem.W.Frag) (C : Addr) : Prop := C = He.ga K "Carpet" ∨ C = He.ga K "Woven"

structure Tx (K : PySem.W.Frag) (mg : Str → Option Value) : Prop where
  f_is_integer : Fd K "is_integer" "is_integer" sis_integer (He.ga K "is_integer")
  f_is_place : Fd K "is_place" "is_place" sis_place (He.ga K "is_place")
  f_check_place : Fd K "check_place" "check_place" scheck_place (He.ga K "check_place")
  f_greatest_divisor : Fd K "greatest_divisor" "greatest_divisor" sgreatest_divisor (He.ga K "greatest_divisor")
  f_divisors : Fd K "divisors" "divisors" sdivisors (He.ga K "divisors")
  f_plus : Fd K "plus" "plus" splus (He.ga K "plus")
  f_minus : Fd K "minus" "minus" sminus (He.ga K "minus")
  f_form_of : Fd K "form_of" "form_of" sform_of (He.ga K "form_of")
  f_are_numbers : Fd K "are_numbers" "are_numbers" sare_numbers (He.ga K "are_numbers")
  f_Net___init__ : Fd K "__init__" "Net.__init__" sNet___init__ (He.ma K (He.ga K "Net") "__init__")
  f_Net_whole : Fd K "whole" "Net.whole" sNet_whole (He5.wf K (He.ga K "Net") "classmethod" "whole")
  f_Net_numbers : Fd K "numbers" "Net.numbers" sNet_numbers (He5.wf K (He.ga K "Net") "property" "numbers")
  f_Net_size : Fd K "size" "Net.size" sNet_size (He5.wf K (He.ga K "Net") "property" "size")
  f_Net_place_in_cell : Fd K "place_in_cell" "Net.place_in_cell" sNet_place_in_cell (He.ma K (He.ga K "Net") "place_in_cell")
  f_Net___contains__ : Fd K "__contains__" "Net.__contains__" sNet___contains__ (He.ma K (He.ga K "Net") "__contains__")
  f_Net___eq__ : Fd K "__eq__" "Net.__eq__" sNet___eq__ (He.ma K (He.ga K "Net") "__eq__")
  f_Net_spots : Fd K "spots" "Net.spots" sNet_spots (He.ma K (He.ga K "Net") "spots")
  f_Net_cell : Fd K "cell" "Net.cell" sNet_cell (He.ma K (He.ga K "Net") "cell")
  f_is_colour : Fd K "is_colour" "is_colour" sis_colour (He.ga K "is_colour")
  f_check_colour : Fd K "check_colour" "check_colour" scheck_colour (He.ga K "check_colour")
  f_is_row : Fd K "is_row" "is_row" sis_row (He.ga K "is_row")
  f_check_rows : Fd K "check_rows" "check_rows" scheck_rows (He.ga K "check_rows")
  f_checked_block : Fd K "checked_block" "checked_block" schecked_block (He.ga K "checked_block")
  f_colour_at : Fd K "colour_at" "colour_at" scolour_at (He.ga K "colour_at")
  f_is_kept : Fd K "is_kept" "is_kept" sis_kept (He.ga K "is_kept")
  f_kept_net : Fd K "kept_net" "kept_net" skept_net (He.ga K "kept_net")
  f_least_cell : Fd K "least_cell" "least_cell" sleast_cell (He.ga K "least_cell")
  f_Carpet___init__ : ∃ fd, FunD K "__init__" "Carpet.__init__" (defArgs sCarpet___init__) (defBody sCarpet___init__) (defScope sCarpet___init__) [] [("shift", .int 0)] (He.ma K (He.ga K "Carpet") "__init__") fd
  f_Carpet_on : Fd K "on" "Carpet.on" sCarpet_on (He5.wf K (He.ga K "Carpet") "staticmethod" "on")
  f_Carpet_plain : Fd K "plain" "Carpet.plain" sCarpet_plain (He5.wf K (He.ga K "Carpet") "classmethod" "plain")
  f_Carpet_net : Fd K "net" "Carpet.net" sCarpet_net (He5.wf K (He.ga K "Carpet") "property" "net")
  f_Carpet_text : Fd K "text" "Carpet.text" sCarpet_text (He5.wf K (He.ga K "Carpet") "property" "text")
  f_Carpet_seen : Fd K "seen" "Carpet.seen" sCarpet_seen (He.ma K (He.ga K "Carpet") "seen")
  f_Carpet___getitem__ : Fd K "__getitem__" "Carpet.__getitem__" sCarpet___getitem__ (He.ma K (He.ga K "Carpet") "__getitem__")
  f_Carpet___len__ : Fd K "__len__" "Carpet.__len__" sCarpet___len__ (He.ma K (He.ga K "Carpet") "__len__")
  f_Carpet___eq__ : Fd K "__eq__" "Carpet.__eq__" sCarpet___eq__ (He.ma K (He.ga K "Carpet") "__eq__")
  f_Woven___init__ : Fd K "__init__" "Woven.__init__" sWoven___init__ (He.ma K (He.ga K "Woven") "__init__")
  f_neighbours : Fd K "neighbours" "neighbours" sneighbours (He.ga K "neighbours")
  f_line_basis : Fd K "line_basis" "line_basis" sline_basis (He.ga K "line_basis")
  f_basis_of : Fd K "basis_of" "basis_of" sbasis_of (He.ga K "basis_of")
  f_Part___init__ : Fd K "__init__" "Part.__init__" sPart___init__ (He.ma K (He.ga K "Part") "__init__")
  f_Part_colour : Fd K "colour" "Part.colour" sPart_colour (He5.wf K (He.ga K "Part") "property" "colour")
  f_Part_start : Fd K "start" "Part.start" sPart_start (He5.wf K (He.ga K "Part") "property" "start")
  f_Part_places : Fd K "places" "Part.places" sPart_places (He5.wf K (He.ga K "Part") "property" "places")
  f_Part_size : Fd K "size" "Part.size" sPart_size (He5.wf K (He.ga K "Part") "property" "size")
  f_Part_border : Fd K "border" "Part.border" sPart_border (He5.wf K (He.ga K "Part") "property" "border")
  f_Part_net : Fd K "net" "Part.net" sPart_net (He5.wf K (He.ga K "Part") "property" "net")
  f_Part_carries : Fd K "carries" "Part.carries" sPart_carries (He.ma K (He.ga K "Part") "carries")
  f_part_from : Fd K "part_from" "part_from" spart_from (He.ga K "part_from")
  f_parts : Fd K "parts" "parts" sparts (He.ga K "parts")
  f_part_at : Fd K "part_at" "part_at" spart_at (He.ga K "part_at")
  f_touching : Fd K "touching" "touching" stouching (He.ga K "touching")
  f_repainted : Fd K "repainted" "repainted" srepainted (He.ga K "repainted")
  f_are_joined : Fd K "are_joined" "are_joined" sare_joined (He.ga K "are_joined")
  f__law_tape : Fd K "_law_tape" "_law_tape" s_law_tape (He.ga K "_law_tape")
  f__law_draw : Fd K "_law_draw" "_law_draw" s_law_draw (He.ga K "_law_draw")
  f__law_low : Fd K "_law_low" "_law_low" s_law_low (He.ga K "_law_low")
  f__law_spots : Fd K "_law_spots" "_law_spots" s_law_spots (He.ga K "_law_spots")
  f__law_seen : Fd K "_law_seen" "_law_seen" s_law_seen (He.ga K "_law_seen")
  f__law_net : Fd K "_law_net" "_law_net" s_law_net (He.ga K "_law_net")
  f__law_turned : Fd K "_law_turned" "_law_turned" s_law_turned (He.ga K "_law_turned")
  f__law_kinds : Fd K "_law_kinds" "_law_kinds" s_law_kinds (He.ga K "_law_kinds")
  f__law_carried : Fd K "_law_carried" "_law_carried" s_law_carried (He.ga K "_law_carried")
  f__law_divisor : Fd K "_law_divisor" "_law_divisor" s_law_divisor (He.ga K "_law_divisor")
  f__law_net_of : Fd K "_law_net_of" "_law_net_of" s_law_net_of (He.ga K "_law_net_of")
  f__law_keeps : Fd K "_law_keeps" "_law_keeps" s_law_keeps (He.ga K "_law_keeps")
  f__law_move : Fd K "_law_move" "_law_move" s_law_move (He.ga K "_law_move")
  f__law_tied : Fd K "_law_tied" "_law_tied" s_law_tied (He.ga K "_law_tied")
  f__law_letters : Fd K "_law_letters" "_law_letters" s_law_letters (He.ga K "_law_letters")
  f__law_square : Fd K "_law_square" "_law_square" s_law_square (He.ga K "_law_square")
  f__law_copied : Fd K "_law_copied" "_law_copied" s_law_copied (He.ga K "_law_copied")
  f__law_woven : Fd K "_law_woven" "_law_woven" s_law_woven (He.ga K "_law_woven")
  f__law_exact : Fd K "_law_exact" "_law_exact" s_law_exact (He.ga K "_law_exact")
  f__law_made : Fd K "_law_made" "_law_made" s_law_made (He.ga K "_law_made")
  f__law_is_kept : Fd K "_law_is_kept" "_law_is_kept" s_law_is_kept (He.ga K "_law_is_kept")
  f__law_least : Fd K "_law_least" "_law_least" s_law_least (He.ga K "_law_least")
  f__law_near : Fd K "_law_near" "_law_near" s_law_near (He.ga K "_law_near")
  f__law_gone : Fd K "_law_gone" "_law_gone" s_law_gone (He.ga K "_law_gone")
  f__law_edge : Fd K "_law_edge" "_law_edge" s_law_edge (He.ga K "_law_edge")
  f__law_borders_right : Fd K "_law_borders_right" "_law_borders_right" s_law_borders_right (He.ga K "_law_borders_right")
  f__law_neighbour : Fd K "_law_neighbour" "_law_neighbour" s_law_neighbour (He.ga K "_law_neighbour")
  f__law_joins : Fd K "_law_joins" "_law_joins" s_law_joins (He.ga K "_law_joins")
  f_law : Fd K "law" "law" slaw (He.ga K "law")
  g_is_integer : mg "is_integer" = some (.ref (He.ga K "is_integer"))
  g_is_place : mg "is_place" = some (.ref (He.ga K "is_place"))
  g_check_place : mg "check_place" = some (.ref (He.ga K "check_place"))
  g_greatest_divisor : mg "greatest_divisor" = some (.ref (He.ga K "greatest_divisor"))
  g_divisors : mg "divisors" = some (.ref (He.ga K "divisors"))
  g_plus : mg "plus" = some (.ref (He.ga K "plus"))
  g_minus : mg "minus" = some (.ref (He.ga K "minus"))
  g_form_of : mg "form_of" = some (.ref (He.ga K "form_of"))
  g_are_numbers : mg "are_numbers" = some (.ref (He.ga K "are_numbers"))
  g_is_colour : mg "is_colour" = some (.ref (He.ga K "is_colour"))
  g_check_colour : mg "check_colour" = some (.ref (He.ga K "check_colour"))
  g_is_row : mg "is_row" = some (.ref (He.ga K "is_row"))
  g_check_rows : mg "check_rows" = some (.ref (He.ga K "check_rows"))
  g_checked_block : mg "checked_block" = some (.ref (He.ga K "checked_block"))
  g_colour_at : mg "colour_at" = some (.ref (He.ga K "colour_at"))
  g_is_kept : mg "is_kept" = some (.ref (He.ga K "is_kept"))
  g_kept_net : mg "kept_net" = some (.ref (He.ga K "kept_net"))
  g_least_cell : mg "least_cell" = some (.ref (He.ga K "least_cell"))
  g_neighbours : mg "neighbours" = some (.ref (He.ga K "neighbours"))
  g_line_basis : mg "line_basis" = some (.ref (He.ga K "line_basis"))
  g_basis_of : mg "basis_of" = some (.ref (He.ga K "basis_of"))
  g_part_from : mg "part_from" = some (.ref (He.ga K "part_from"))
  g_parts : mg "parts" = some (.ref (He.ga K "parts"))
  g_part_at : mg "part_at" = some (.ref (He.ga K "part_at"))
  g_touching : mg "touching" = some (.ref (He.ga K "touching"))
  g_repainted : mg "repainted" = some (.ref (He.ga K "repainted"))
  g_are_joined : mg "are_joined" = some (.ref (He.ga K "are_joined"))
  g__law_tape : mg "_law_tape" = some (.ref (He.ga K "_law_tape"))
  g__law_draw : mg "_law_draw" = some (.ref (He.ga K "_law_draw"))
  g__law_low : mg "_law_low" = some (.ref (He.ga K "_law_low"))
  g__law_spots : mg "_law_spots" = some (.ref (He.ga K "_law_spots"))
  g__law_seen : mg "_law_seen" = some (.ref (He.ga K "_law_seen"))
  g__law_net : mg "_law_net" = some (.ref (He.ga K "_law_net"))
  g__law_turned : mg "_law_turned" = some (.ref (He.ga K "_law_turned"))
  g__law_kinds : mg "_law_kinds" = some (.ref (He.ga K "_law_kinds"))
  g__law_carried : mg "_law_carried" = some (.ref (He.ga K "_law_carried"))
  g__law_divisor : mg "_law_divisor" = some (.ref (He.ga K "_law_divisor"))
  g__law_net_of : mg "_law_net_of" = some (.ref (He.ga K "_law_net_of"))
  g__law_keeps : mg "_law_keeps" = some (.ref (He.ga K "_law_keeps"))
  g__law_move : mg "_law_move" = some (.ref (He.ga K "_law_move"))
  g__law_tied : mg "_law_tied" = some (.ref (He.ga K "_law_tied"))
  g__law_letters : mg "_law_letters" = some (.ref (He.ga K "_law_letters"))
  g__law_square : mg "_law_square" = some (.ref (He.ga K "_law_square"))
  g__law_copied : mg "_law_copied" = some (.ref (He.ga K "_law_copied"))
  g__law_woven : mg "_law_woven" = some (.ref (He.ga K "_law_woven"))
  g__law_exact : mg "_law_exact" = some (.ref (He.ga K "_law_exact"))
  g__law_made : mg "_law_made" = some (.ref (He.ga K "_law_made"))
  g__law_is_kept : mg "_law_is_kept" = some (.ref (He.ga K "_law_is_kept"))
  g__law_least : mg "_law_least" = some (.ref (He.ga K "_law_least"))
  g__law_near : mg "_law_near" = some (.ref (He.ga K "_law_near"))
  g__law_gone : mg "_law_gone" = some (.ref (He.ga K "_law_gone"))
  g__law_edge : mg "_law_edge" = some (.ref (He.ga K "_law_edge"))
  g__law_borders_right : mg "_law_borders_right" = some (.ref (He.ga K "_law_borders_right"))
  g__law_neighbour : mg "_law_neighbour" = some (.ref (He.ga K "_law_neighbour"))
  g__law_joins : mg "_law_joins" = some (.ref (He.ga K "_law_joins"))
  g_law : mg "law" = some (.ref (He.ga K "law"))
  g_Net : mg "Net" = some (.ref (He.ga K "Net"))
  c_Net : Cls K (He.ga K "Net")
  mk_Net : Mk K (He.ga K "Net") (He.ma K (He.ga K "Net") "__init__")
  g_Carpet : mg "Carpet" = some (.ref (He.ga K "Carpet"))
  c_Carpet : Cls K (He.ga K "Carpet")
  mk_Carpet : Mk K (He.ga K "Carpet") (He.ma K (He.ga K "Carpet") "__init__")
  g_Woven : mg "Woven" = some (.ref (He.ga K "Woven"))
  c_Woven : Cls K (He.ga K "Woven")
  mk_Woven : Mk K (He.ga K "Woven") (He.ma K (He.ga K "Woven") "__init__")
  g_Part : mg "Part" = some (.ref (He.ga K "Part"))
  c_Part : Cls K (He.ga K "Part")
  mk_Part : Mk K (He.ga K "Part") (He.ma K (He.ga K "Part") "__init__")
  g_MOST_ROWS : ∃ t, mg "MOST_ROWS" = some (.int 100 t)
  g_MOST_LETTERS : ∃ t, mg "MOST_LETTERS" = some (.int 1000 t)
  g_MOST_PLACES : ∃ t, mg "MOST_PLACES" = some (.int 2000 t)
  g_LETTERS : ∃ t, mg "LETTERS" = some (.str "abcdefghijklmnopqrstuvwxyz" t)
  g_STEPS : mg "STEPS" = some (.ref (He.ga K "STEPS"))
  steps : ∃ a b c d, (∀ H, SqT K H (He.ga K "STEPS") [.ref a, .ref b, .ref c, .ref d]) ∧ (∀ H, SqT K H a [.int 1, .int 0]) ∧ (∀ H, SqT K H b [.int 0, .int 1]) ∧ (∀ H, SqT K H c [.int (-1), .int 0]) ∧ ∀ H, SqT K H d [.int 0, .int (-1)]
  b_len : mg "len" = none
  b_abs : mg "abs" = none
  b_isinstance : mg "isinstance" = none
  b_all : mg "all" = none
  b_sum : mg "sum" = none
  b_sorted : mg "sorted" = none
  b_int : mg "int" = none
  b_list : mg "list" = none
  b_tuple : mg "tuple" = none
  b_str : mg "str" = none
  b_bool : mg "bool" = none
  b_range : mg "range" = none
  b_enumerate : mg "enumerate" = none
  n_Net_own_numbers : NoAttr K (He.ga K "Net") "own_numbers"
  n_Carpet_own_net : NoAttr K (He.ga K "Carpet") "own_net"
  n_Woven_own_net : NoAttr K (He.ga K "Woven") "own_net"
  n_Carpet_own_text : NoAttr K (He.ga K "Carpet") "own_text"
  n_Woven_own_text : NoAttr K (He.ga K "Woven") "own_text"
  n_Part_own_colour : NoAttr K (He.ga K "Part") "own_colour"
  n_Part_own_start : NoAttr K (He.ga K "Part") "own_start"
  n_Part_known : NoAttr K (He.ga K "Part") "known"
  n_Part_own_places : NoAttr K (He.ga K "Part") "own_places"
  n_Part_own_basis : NoAttr K (He.ga K "Part") "own_basis"
  n_Part_own_border : NoAttr K (He.ga K "Part") "own_border"
  p_Carpet_net : PropOf K (He.ga K "Carpet") "net" (He.ma K (He.ga K "Carpet") "net") (He5.wf K (He.ga K "Carpet") "property" "net")
  p_Woven_net : PropOf K (He.ga K "Woven") "net" (He.ma K (He.ga K "Carpet") "net") (He5.wf K (He.ga K "Carpet") "property" "net")
  p_Carpet_text : PropOf K (He.ga K "Carpet") "text" (He.ma K (He.ga K "Carpet") "text") (He5.wf K (He.ga K "Carpet") "property" "text")
  p_Woven_text : PropOf K (He.ga K "Woven") "text" (He.ma K (He.ga K "Carpet") "text") (He5.wf K (He.ga K "Carpet") "property" "text")
  p_Net_numbers : PropOf K (He.ga K "Net") "numbers" (He.ma K (He.ga K "Net") "numbers") (He5.wf K (He.ga K "Net") "property" "numbers")
  p_Net_size : PropOf K (He.ga K "Net") "size" (He.ma K (He.ga K "Net") "size") (He5.wf K (He.ga K "Net") "property" "size")
  p_Part_border : PropOf K (He.ga K "Part") "border" (He.ma K (He.ga K "Part") "border") (He5.wf K (He.ga K "Part") "property" "border")
  p_Part_colour : PropOf K (He.ga K "Part") "colour" (He.ma K (He.ga K "Part") "colour") (He5.wf K (He.ga K "Part") "property" "colour")
  p_Part_net : PropOf K (He.ga K "Part") "net" (He.ma K (He.ga K "Part") "net") (He5.wf K (He.ga K "Part") "property" "net")
  p_Part_places : PropOf K (He.ga K "Part") "places" (He.ma K (He.ga K "Part") "places") (He5.wf K (He.ga K "Part") "property" "places")
  p_Part_size : PropOf K (He.ga K "Part") "size" (He.ma K (He.ga K "Part") "size") (He5.wf K (He.ga K "Part") "property" "size")
  p_Part_start : PropOf K (He.ga K "Part") "start" (He.ma K (He.ga K "Part") "start") (He5.wf K (He.ga K "Part") "property" "start")
  m_Net_place_in_cell : Meth K (He.ga K "Net") "place_in_cell" (He.ma K (He.ga K "Net") "place_in_cell")
  m_Net_spots : Meth K (He.ga K "Net") "spots" (He.ma K (He.ga K "Net") "spots")
  m_Net_cell : Meth K (He.ga K "Net") "cell" (He.ma K (He.ga K "Net") "cell")
  m_Part_carries : Meth K (He.ga K "Part") "carries" (He.ma K (He.ga K "Part") "carries")
  m_Carpet_seen : Meth K (He.ga K "Carpet") "seen" (He.ma K (He.ga K "Carpet") "seen")
  m_Woven_seen : Meth K (He.ga K "Woven") "seen" (He.ma K (He.ga K "Carpet") "seen")
  x_Net__contains__ : Spc K (He.ga K "Net") "__contains__" (He.ma K (He.ga K "Net") "__contains__")
  x_Net__eq__ : Spc K (He.ga K "Net") "__eq__" (He.ma K (He.ga K "Net") "__eq__")
  x_Carpet__getitem__ : Spc K (He.ga K "Carpet") "__getitem__" (He.ma K (He.ga K "Carpet") "__getitem__")
  x_Woven__getitem__ : Spc K (He.ga K "Woven") "__getitem__" (He.ma K (He.ga K "Carpet") "__getitem__")
  x_Carpet__len__ : Spc K (He.ga K "Carpet") "__len__" (He.ma K (He.ga K "Carpet") "__len__")
  x_Woven__len__ : Spc K (He.ga K "Woven") "__len__" (He.ma K (He.ga K "Carpet") "__len__")
  x_Woven__eq__ : Spc K (He.ga K "Woven") "__eq__" (He.ma K (He.ga K "Carpet") "__eq__")
  kf_Carpet___getitem__ : PySem.W.fnIn K (He.ma K (He.ga K "Carpet") "__getitem__") = true
  ne_Woven : PySem.W.findIn K (.ref (He.ga K "Woven")) "__ne__" = some (some (.builtin "object.__ne__"))
  mo_Woven : PySem.W.mroIn K (He.ga K "Woven") (.type "object") = some true
  cr_Net : ClX.CRead K (He.ga K "Net") (.type "type")
  cr_Carpet : ClX.CRead K (He.ga K "Carpet") (.type "type")
  m_Net_whole : ClX.CMet K (He.ga K "Net") (.type "type") "whole" (He.ma K (He.ga K "Net") "whole") (He5.wf K (He.ga K "Net") "classmethod" "whole")
  m_Carpet_plain : ClX.CMet K (He.ga K "Carpet") (.type "type") "plain" (He.ma K (He.ga K "Carpet") "plain") (He5.wf K (He.ga K "Carpet") "classmethod" "plain")
  s_Carpet_on : SMet K (He.ga K "Carpet") (.type "type") "on" (He.ma K (He.ga K "Carpet") "on") (He5.wf K (He.ga K "Carpet") "staticmethod" "on")
  ic_Net : PySem.W.findIn K (.ref (He.ga K "Net")) "__class__" = some (some (.builtin "object.__class__"))
  ic_Carpet : PySem.W.findIn K (.ref (He.ga K "Carpet")) "__class__" = some (some (.builtin "object.__class__"))
  ic_Woven : PySem.W.findIn K (.ref (He.ga K "Woven")) "__class__" = some (some (.builtin "object.__class__"))
  ic_Part : PySem.W.findIn K (.ref (He.ga K "Part")) "__class__" = some (some (.builtin "object.__class__"))
  mo_Net : PySem.W.mroIn K (He.ga K "Net") (.type "object") = some true
  mo_Carpet : PySem.W.mroIn K (He.ga K "Carpet") (.type "object") = some true
  mo_Part : PySem.W.mroIn K (He.ga K "Part") (.type "object") = some true
  sp_class : PySem.W.specialIn K (.builtin "object.__class__") "__get__" = some (some (.builtin "getset_descriptor.__get__"))
  tk_class : PySem.W.takesIn K (.builtin "object.__class__") = some true
  i_Net : PySem.W.kitOne K (.ref (He.ga K "Net")) (.ref (He.ga K "Net")) = some true
  i_Woven : PySem.W.kitOne K (.ref (He.ga K "Woven")) (.ref (He.ga K "Carpet")) = some true

section
variable {K : PySem.W.Frag} {mg : Str → Option Value}
theorem Tx.k_is_integer (T : Tx K mg) : PySem.W.keepIn K (.ref (He.ga K "is_integer")) = true := T.f_is_integer.kp
theorem Tx.k_is_place (T : Tx K mg) : PySem.W.keepIn K (.ref (He.ga K "is_place")) = true := T.f_is_place.kp
theorem Tx.k_check_place (T : Tx K mg) : PySem.W.keepIn K (.ref (He.ga K "check_place")) = true := T.f_check_place.kp
theorem Tx.k_greatest_divisor (T : Tx K mg) : PySem.W.keepIn K (.ref (He.ga K "greatest_divisor")) = true := T.f_greatest_divisor.kp
theorem Tx.k_divisors (T : Tx K mg) : PySem.W.keepIn K (.ref (He.ga K "divisors")) = true := T.f_divisors.kp
theorem Tx.k_plus (T : Tx K mg) : PySem.W.keepIn K (.ref (He.ga K "plus")) = true := T.f_plus.kp
theorem Tx.k_minus (T : Tx K mg) : PySem.W.keepIn K (.ref (He.ga K "minus")) = true := T.f_minus.kp
theorem Tx.k_form_of (T : Tx K mg) : PySem.W.keepIn K (.ref (He.ga K "form_of")) = true := T.f_form_of.kp
theorem Tx.k_are_numbers (T : Tx K mg) : PySem.W.keepIn K (.ref (He.ga K "are_numbers")) = true := T.f_are_numbers.kp
theorem Tx.k_is_colour (T : Tx K mg) : PySem.W.keepIn K (.ref (He.ga K "is_colour")) = true := T.f_is_colour.kp
theorem Tx.k_check_colour (T : Tx K mg) : PySem.W.keepIn K (.ref (He.ga K "check_colour")) = true := T.f_check_colour.kp
theorem Tx.k_is_row (T : Tx K mg) : PySem.W.keepIn K (.ref (He.ga K "is_row")) = true := T.f_is_row.kp
theorem Tx.k_check_rows (T : Tx K mg) : PySem.W.keepIn K (.ref (He.ga K "check_rows")) = true := T.f_check_rows.kp
theorem Tx.k_checked_block (T : Tx K mg) : PySem.W.keepIn K (.ref (He.ga K "checked_block")) = true := T.f_checked_block.kp
theorem Tx.k_colour_at (T : Tx K mg) : PySem.W.keepIn K (.ref (He.ga K "colour_at")) = true := T.f_colour_at.kp
theorem Tx.k_is_kept (T : Tx K mg) : PySem.W.keepIn K (.ref (He.ga K "is_kept")) = true := T.f_is_kept.kp
theorem Tx.k_kept_net (T : Tx K mg) : PySem.W.keepIn K (.ref (He.ga K "kept_net")) = true := T.f_kept_net.kp
theorem Tx.k_least_cell (T : Tx K mg) : PySem.W.keepIn K (.ref (He.ga K "least_cell")) = true := T.f_least_cell.kp
theorem Tx.k_neighbours (T : Tx K mg) : PySem.W.keepIn K (.ref (He.ga K "neighbours")) = true := T.f_neighbours.kp
theorem Tx.k_line_basis (T : Tx K mg) : PySem.W.keepIn K (.ref (He.ga K "line_basis")) = true := T.f_line_basis.kp
theorem Tx.k_basis_of (T : Tx K mg) : PySem.W.keepIn K (.ref (He.ga K "basis_of")) = true := T.f_basis_of.kp
theorem Tx.k_part_from (T : Tx K mg) : PySem.W.keepIn K (.ref (He.ga K "part_from")) = true := T.f_part_from.kp
theorem Tx.k_parts (T : Tx K mg) : PySem.W.keepIn K (.ref (He.ga K "parts")) = true := T.f_parts.kp
theorem Tx.k_part_at (T : Tx K mg) : PySem.W.keepIn K (.ref (He.ga K "part_at")) = true := T.f_part_at.kp
theorem Tx.k_touching (T : Tx K mg) : PySem.W.keepIn K (.ref (He.ga K "touching")) = true := T.f_touching.kp
theorem Tx.k_repainted (T : Tx K mg) : PySem.W.keepIn K (.ref (He.ga K "repainted")) = true := T.f_repainted.kp
theorem Tx.k_are_joined (T : Tx K mg) : PySem.W.keepIn K (.ref (He.ga K "are_joined")) = true := T.f_are_joined.kp
theorem Tx.k__law_tape (T : Tx K mg) : PySem.W.keepIn K (.ref (He.ga K "_law_tape")) = true := T.f__law_tape.kp
theorem Tx.k__law_draw (T : Tx K mg) : PySem.W.keepIn K (.ref (He.ga K "_law_draw")) = true := T.f__law_draw.kp
theorem Tx.k__law_low (T : Tx K mg) : PySem.W.keepIn K (.ref (He.ga K "_law_low")) = true := T.f__law_low.kp
theorem Tx.k__law_spots (T : Tx K mg) : PySem.W.keepIn K (.ref (He.ga K "_law_spots")) = true := T.f__law_spots.kp
theorem Tx.k__law_seen (T : Tx K mg) : PySem.W.keepIn K (.ref (He.ga K "_law_seen")) = true := T.f__law_seen.kp
theorem Tx.k__law_net (T : Tx K mg) : PySem.W.keepIn K (.ref (He.ga K "_law_net")) = true := T.f__law_net.kp
theorem Tx.k__law_turned (T : Tx K mg) : PySem.W.keepIn K (.ref (He.ga K "_law_turned")) = true := T.f__law_turned.kp
theorem Tx.k__law_kinds (T : Tx K mg) : PySem.W.keepIn K (.ref (He.ga K "_law_kinds")) = true := T.f__law_kinds.kp
theorem Tx.k__law_carried (T : Tx K mg) : PySem.W.keepIn K (.ref (He.ga K "_law_carried")) = true := T.f__law_carried.kp
theorem Tx.k__law_divisor (T : Tx K mg) : PySem.W.keepIn K (.ref (He.ga K "_law_divisor")) = true := T.f__law_divisor.kp
theorem Tx.k__law_net_of (T : Tx K mg) : PySem.W.keepIn K (.ref (He.ga K "_law_net_of")) = true := T.f__law_net_of.kp
theorem Tx.k__law_keeps (T : Tx K mg) : PySem.W.keepIn K (.ref (He.ga K "_law_keeps")) = true := T.f__law_keeps.kp
theorem Tx.k__law_move (T : Tx K mg) : PySem.W.keepIn K (.ref (He.ga K "_law_move")) = true := T.f__law_move.kp
theorem Tx.k__law_tied (T : Tx K mg) : PySem.W.keepIn K (.ref (He.ga K "_law_tied")) = true := T.f__law_tied.kp
theorem Tx.k__law_letters (T : Tx K mg) : PySem.W.keepIn K (.ref (He.ga K "_law_letters")) = true := T.f__law_letters.kp
theorem Tx.k__law_square (T : Tx K mg) : PySem.W.keepIn K (.ref (He.ga K "_law_square")) = true := T.f__law_square.kp
theorem Tx.k__law_copied (T : Tx K mg) : PySem.W.keepIn K (.ref (He.ga K "_law_copied")) = true := T.f__law_copied.kp
theorem Tx.k__law_woven (T : Tx K mg) : PySem.W.keepIn K (.ref (He.ga K "_law_woven")) = true := T.f__law_woven.kp
theorem Tx.k__law_exact (T : Tx K mg) : PySem.W.keepIn K (.ref (He.ga K "_law_exact")) = true := T.f__law_exact.kp
theorem Tx.k__law_made (T : Tx K mg) : PySem.W.keepIn K (.ref (He.ga K "_law_made")) = true := T.f__law_made.kp
theorem Tx.k__law_is_kept (T : Tx K mg) : PySem.W.keepIn K (.ref (He.ga K "_law_is_kept")) = true := T.f__law_is_kept.kp
theorem Tx.k__law_least (T : Tx K mg) : PySem.W.keepIn K (.ref (He.ga K "_law_least")) = true := T.f__law_least.kp
theorem Tx.k__law_near (T : Tx K mg) : PySem.W.keepIn K (.ref (He.ga K "_law_near")) = true := T.f__law_near.kp
theorem Tx.k__law_gone (T : Tx K mg) : PySem.W.keepIn K (.ref (He.ga K "_law_gone")) = true := T.f__law_gone.kp
theorem Tx.k__law_edge (T : Tx K mg) : PySem.W.keepIn K (.ref (He.ga K "_law_edge")) = true := T.f__law_edge.kp
theorem Tx.k__law_borders_right (T : Tx K mg) : PySem.W.keepIn K (.ref (He.ga K "_law_borders_right")) = true := T.f__law_borders_right.kp
theorem Tx.k__law_neighbour (T : Tx K mg) : PySem.W.keepIn K (.ref (He.ga K "_law_neighbour")) = true := T.f__law_neighbour.kp
theorem Tx.k__law_joins (T : Tx K mg) : PySem.W.keepIn K (.ref (He.ga K "_law_joins")) = true := T.f__law_joins.kp
theorem Tx.k_law (T : Tx K mg) : PySem.W.keepIn K (.ref (He.ga K "law")) = true := T.f_law.kp
theorem Tx.pr_net (T : Tx K mg) : ∀ C, CarC K C → Cls K C ∧ PropOf K C "net" (He.ma K (He.ga K "Carpet") "net") (He5.wf K (He.ga K "Carpet") "property" "net") := fun C h => by
  rcases h with rfl | rfl
  · exact ⟨T.c_Carpet, T.p_Carpet_net⟩
  · exact ⟨T.c_Woven, T.p_Woven_net⟩
theorem Tx.pr_text (T : Tx K mg) : ∀ C, CarC K C → Cls K C ∧ PropOf K C "text" (He.ma K (He.ga K "Carpet") "text") (He5.wf K (He.ga K "Carpet") "property" "text") := fun C h => by
  rcases h with rfl | rfl
  · exact ⟨T.c_Carpet, T.p_Carpet_text⟩
  · exact ⟨T.c_Woven, T.p_Woven_text⟩
theorem Tx.me_seen (T : Tx K mg) : ∀ C, CarC K C → Cls K C ∧ Meth K C "seen" (He.ma K (He.ga K "Carpet") "seen") := fun C h => by
  rcases h with rfl | rfl
  · exact ⟨T.c_Carpet, T.m_Carpet_seen⟩
  · exact ⟨T.c_Woven, T.m_Woven_seen⟩
theorem Tx.carGet (T : Tx K mg) : ∀ C, CarC K C → Spc K C "__getitem__" (He.ma K (He.ga K "Carpet") "__getitem__") := fun C h => by
  rcases h with rfl | rfl
  · exact T.x_Carpet__getitem__
  · exact T.x_Woven__getitem__
theorem Tx.carLen (T : Tx K mg) : ∀ C, CarC K C → Spc K C "__len__" (He.ma K (He.ga K "Carpet") "__len__") := fun C h => by
  rcases h with rfl | rfl
  · exact T.x_Carpet__len__
  · exact T.x_Woven__len__
theorem Tx.carC (T : Tx K mg) : ∀ {C}, CarC K C → Cls K C ∧ NoAttr K C "own_net" ∧ NoAttr K C "own_text" := fun {C} h => by
  rcases h with rfl | rfl
  · exact ⟨T.c_Carpet, T.n_Carpet_own_net, T.n_Carpet_own_text⟩
  · exact ⟨T.c_Woven, T.n_Woven_own_net, T.n_Woven_own_text⟩
end
/-- THE RULE for a def without defaults: its positional promise -/
theorem fnr_of {P : Program} {w : World} {K : PySem.W.Frag} {mg : Str → Option Value} {base : Heap} {x qual : Str} {st : Stmt} {f : Addr} {N ps : List Str} {k : Nat} {sp : Sp} (F : Fd K x qual st f) (S : FnScope N ps (defScope st))
    (hb : ∀ (kV doc pm : Value) (an : Option Addr) (cdv ct : Value) (us : List Value), us.length = ps.length → bindArgs (PySem.W.fnOf x qual (defArgs st) (defBody st) (defScope st) .none kV doc pm an cdv ct) ⟨us, []⟩ = pure (ps.zip us))
    (len : ∀ vs H Q E, sp vs H Q E → vs.length = ps.length)
    (hbody : ∀ (cdv : Value) (A : Around) (outer : List Env) (s : Shared) (H : Hp) (vs : List V) (Q : VK) (E : XK), Room k (A.deeper (envOfC qual (defScope st) s.heap.objs.size f cdv)) → sp vs H Q E →
      ∃ t, PSs (cxOf CX0 P w K mg base N qual (defScope st) f cdv A outer s H E).nox (defBody st) t ∧ t { nx := fun _ H' => Q .non H', rt := Q } (start N vs) H) : FnR P w K mg base CX0 (k + 1) f sp := by
  obtain ⟨fd, F⟩ := F
  have G : FnOk P w K mg base CX0 (k + 1) f fd ps sp := F.ok S len fun cdv A outer s H vs Q E hr hs => let ⟨t, h, q⟩ := hbody cdv A outer s H vs Q E hr hs; ⟨t, h.nox, q⟩
  have R := G.raw (F.bindsN hb) .nil
  exact R.imp fun vs H Q E h => by rw [List.append_nil]; exact h
theorem bo_len : bootBuiltins "len" = some (.builtin "len") := by decide +kernel
theorem bo_abs : bootBuiltins "abs" = some (.builtin "abs") := by decide +kernel
theorem bo_isinstance : bootBuiltins "isinstance" = some (.builtin "isinstance") := by decide +kernel
theorem bo_all : bootBuiltins "all" = some (.builtin "all") := by decide +kernel
theorem bo_sum : bootBuiltins "sum" = some (.builtin "sum") := by decide +kernel
theorem bo_sorted : bootBuiltins "sorted" = some (.builtin "sorted") := by decide +kernel
theorem bo_int : bootBuiltins "int" = some (.type "int") := by decide +kernel
theorem bo_bool : bootBuiltins "bool" = some (.type "bool") := by decide +kernel
theorem bo_list : bootBuiltins "list" = some (.type "list") := by decide +kernel
theorem bo_tuple : bootBuiltins "tuple" = some (.type "tuple") := by decide +kernel
theorem bo_str : bootBuiltins "str" = some (.type "str") := by decide +kernel
end Cp
set_option Elab.async false
set_option linter.all false
set_option maxRecDepth 100000
set_option maxHeartbeats 4000000
/-! H0: the facts that the head's Hook reads (printed by genh.py). -/
namespace Cp
open PySem PySem.Spec PyProof.Rows L2
/-! ### the Hook -/
def obsC (ex : PySem.W.Frag → List Bool) (fa : List He.Fa) (fn : List He5.DefA) (K : PySem.W.Frag) : He.AlD := ((fa.all fun f => f.ok K) && ((ex K).all id && fn.all fun d => d.ok K), fn.map fun d => He5.fnA K (d.at_ K))
def SaysC (ex : PySem.W.Frag → List Bool) (fa : List He.Fa) (fn : List He5.DefA) (K : PySem.W.Frag) : Prop := obsC ex fa fn K = He5.valA fn
def obsCG (as : List Addr) (ex : PySem.W.Frag → List Bool) (fa : List He.Fa) (fn : List He5.DefA) (g : Addr → Option Obj) : He.AlD := obsC ex fa fn (He.frG g as)
def hookC (as : List Addr) (ex : PySem.W.Frag → List Bool) (fa : List He.Fa) (fn : List He5.DefA) : PySem.W.Hook where
  α := He.AlD
  obs := fun s => obsCG as ex fa fn s.heap.get?
  val := fun _ => He5.valA fn
  says := fun _ h => ∃ K : PySem.W.Frag, K.In h ∧ SaysC ex fa fn K
  of := fun _ _ e => ⟨_, He.frG_in, e⟩
  keeps := fun _ _ _ ⟨K, hK, c⟩ k => ⟨K, PySem.W.Frag.In.keeps hK k, c⟩
theorem obsCG_eq {as : List Addr} {ex : PySem.W.Frag → List Bool} {fa : List He.Fa} {fn : List He5.DefA} {g : Addr → Option Obj} {s : Shared} (h : ∀ a, g a = s.heap.get? a) : obsCG as ex fa fn g = (hookC as ex fa fn).obs s := by
  have e : g = s.heap.get? := funext h
  rw [e] <;> rfl
section
variable {ex : PySem.W.Frag → List Bool} {fa : List He.Fa} {fn : List He5.DefA} {K : PySem.W.Frag}
theorem SaysC.fact (c : SaysC ex fa fn K) (i : Nat) {f : He.Fa} (h : fa[i]? = some f) : f.ok K = true := by
  have c1 := (He.ba (show ((fa.all fun f => f.ok K) && ((ex K).all id && fn.all fun d => d.ok K)) = true from congrArg (fun z : He.AlD => z.1) c)).1
  exact List.all_eq_true.mp c1 f (List.mem_of_getElem? h)
theorem SaysC.more (c : SaysC ex fa fn K) (i : Nat) {b : Bool} (h : (ex K)[i]? = some b) : b = true := by
  have c1 := (He.ba (He.ba (show ((fa.all fun f => f.ok K) && ((ex K).all id && fn.all fun d => d.ok K)) = true from congrArg (fun z : He.AlD => z.1) c)).2).1
  exact List.all_eq_true.mp c1 b (List.mem_of_getElem? h)
theorem SaysC.def_ (c : SaysC ex fa fn K) (i : Nat) {d : He5.DefA} (h : fn[i]? = some d) : ∃ fd, L2.FunD K d.name d.qual d.params d.body d.scope (d.dvs K) (d.kws K) (d.at_ K) fd := by
  have c2 := (He.ba (He.ba (show ((fa.all fun f => f.ok K) && ((ex K).all id && fn.all fun d => d.ok K)) = true from congrArg (fun z : He.AlD => z.1) c)).2).2
  have e : fn.map (fun d => He5.fnA K (d.at_ K)) = fn.map He5.DefA.val := congrArg (fun z : He.AlD => z.2) c
  have e2 : (fn.map fun d => He5.fnA K (d.at_ K))[i]? = (fn.map He5.DefA.val)[i]? := by rw [e]
  rw [List.getElem?_map, List.getElem?_map, h] at e2
  exact He5.DefA.funD (Option.some.inj e2) (List.all_eq_true.mp c2 d (List.mem_of_getElem? h))
end
/-! ### more facts -/
section
variable {K : PySem.W.Frag} {C c m : Str}
def recB (K : PySem.W.Frag) (p : Addr) (T : String) : Bool := match PySem.W.recIn K p T with
  | some (.ref _ :: _) => true
  | _ => false
theorem recB_ok {K : PySem.W.Frag} {D : Addr} {m : Str} {T : String} (h : recB K (He.ma K D m) T = true) : ∃ rest, PySem.W.recIn K (He.ma K D m) T = some (.ref (He5.wf K D T m) :: rest) := by
  unfold He5.wf
  unfold recB at h
  split at h
  · rename_i f r e
    exact ⟨r, by rw [e]⟩
  · cases h
def propB (K : PySem.W.Frag) (C c m : Str) : Bool := He.eqO (PySem.W.findIn K (.ref (He.ga K C)) m) (some (some (.ref (He.ma K (He.ga K c) m)))) && (He.eqO (PySem.W.specialIn K (.ref (He.ma K (He.ga K c) m)) "__get__") (some (some (.builtin "property.__get__"))) &&
  (decide (PySem.W.takesIn K (.ref (He.ma K (He.ga K c) m)) = some true) && recB K (He.ma K (He.ga K c) m) "property"))
theorem propB_ok (h : propB K C c m = true) : PropOf K (He.ga K C) m (He.ma K (He.ga K c) m) (He5.wf K (He.ga K c) "property" m) := by
  obtain ⟨h1, h⟩ := He.ba h
  obtain ⟨h2, h⟩ := He.ba h
  obtain ⟨h3, h4⟩ := He.ba h
  exact ⟨He.eqO_ok h1, He.eqO_ok h2, of_decide_eq_true h3, recB_ok h4⟩
def methB (K : PySem.W.Frag) (C c m : Str) : Bool := He.eqO (PySem.W.findIn K (.ref (He.ga K C)) m) (some (some (.ref (He.ma K (He.ga K c) m)))) && (PySem.W.isFn K (.ref (He.ma K (He.ga K c) m)) && PySem.W.keepIn K (.ref (He.ma K (He.ga K c) m)))
theorem methB_ok (h : methB K C c m = true) : Meth K (He.ga K C) m (He.ma K (He.ga K c) m) := by
  obtain ⟨h1, h⟩ := He.ba h
  obtain ⟨h2, h3⟩ := He.ba h
  exact ⟨He.eqO_ok h1, h2, h3⟩
def spcB (K : PySem.W.Frag) (C c m : Str) : Bool := He.eqO (PySem.W.findIn K (.ref (He.ga K C)) m) (some (some (.ref (He.ma K (He.ga K c) m)))) && PySem.W.isFn K (.ref (He.ma K (He.ga K c) m))
theorem spcB_ok (h : spcB K C c m = true) : Spc K (He.ga K C) m (He.ma K (He.ga K c) m) := by
  obtain ⟨h1, h2⟩ := He.ba h
  exact ⟨He.eqO_ok h1, h2⟩
def crB (K : PySem.W.Frag) (c : Str) : Bool := PySem.W.readsIn K (He.ga K c) (.type "type") && He.eqO (PySem.W.specialIn K (.ref (He.ga K c)) "__getattribute__") (some (some (.builtin "type.__getattribute__")))
theorem crB_ok (h : crB K c = true) : ClX.CRead K (He.ga K c) (.type "type") := by
  obtain ⟨h1, h2⟩ := He.ba h
  exact ⟨h1, He.eqO_ok h2⟩
def cmB (K : PySem.W.Frag) (c m : Str) : Bool := He5.wrapB K (He.ga K c) "classmethod" "classmethod.__get__" m && PySem.W.fnIn K (He5.wf K (He.ga K c) "classmethod" m)
theorem cmB_ok (h : cmB K c m = true) : ClX.CMet K (He.ga K c) (.type "type") m (He.ma K (He.ga K c) m) (He5.wf K (He.ga K c) "classmethod" m) := by
  obtain ⟨h1, h2⟩ := He.ba h
  exact He5.cmet_of h1 h2
def smB (K : PySem.W.Frag) (c m : Str) : Bool := He5.wrapB K (He.ga K c) "staticmethod" "staticmethod.__get__" m && PySem.W.keepIn K (.ref (He5.wf K (He.ga K c) "staticmethod" m))
theorem smB_ok (h : smB K c m = true) : SMet K (He.ga K c) (.type "type") m (He.ma K (He.ga K c) m) (He5.wf K (He.ga K c) "staticmethod" m) := by
  obtain ⟨h1, h2⟩ := He.ba h
  obtain ⟨h3, h4⟩ := He5.wrapB_ok h1
  exact ⟨h3, h4, h2⟩
def tupA (K : PySem.W.Frag) (a : Addr) (vs : List V) : Bool := match K.lookup a with
  | some ⟨.type c, _, .seq its _, _⟩ => decide (c = "tuple") && (decide (its.size ≤ sizeLine) && He.relAll vs its.toList)
  | _ => false
theorem tupA_ok {a : Addr} {vs : List V} (h : tupA K a vs = true) (H : Hp) : SqT K H a vs := by
  unfold tupA at h
  cases q : K.lookup a with
  | none =>
    rw [q] at h
    cases h
  | some o =>
    obtain ⟨oc, od, dt, osl⟩ := o
    rw [q] at h
    cases oc with
    | type c =>
      cases dt with
      | seq its n =>
        obtain ⟨h1, h2⟩ := He.ba (show (decide (c = "tuple") && (decide (its.size ≤ sizeLine) && He.relAll vs its.toList)) = true from h)
        obtain ⟨h3, h4⟩ := He.ba h2
        exact .inr ⟨_, its, n, q, congrArg Value.type (of_decide_eq_true h1), rfl, of_decide_eq_true h3, He.relAll_ok h4⟩
      | _ => cases h
    | _ => cases dt <;> cases h
def stA (K : PySem.W.Frag) (i : Nat) : Addr := match K.lookup (He.ga K "STEPS") with
  | some ⟨_, _, .seq its _, _⟩ => (match its.toList[i]? with
    | some (.ref a) => a
    | _ => 0)
  | _ => 0
def stepsB (K : PySem.W.Frag) : Bool := tupA K (He.ga K "STEPS") [.ref (stA K 0), .ref (stA K 1), .ref (stA K 2), .ref (stA K 3)] && (tupA K (stA K 0) [.int 1, .int 0] && (tupA K (stA K 1) [.int 0, .int 1] && (tupA K (stA K 2) [.int (-1), .int 0] && tupA K (stA K 3) [.int 0, .int (-1)])))
theorem stepsB_ok (h : stepsB K = true) : ∃ a b c d, (∀ H, SqT K H (He.ga K "STEPS") [.ref a, .ref b, .ref c, .ref d]) ∧ (∀ H, SqT K H a [.int 1, .int 0]) ∧ (∀ H, SqT K H b [.int 0, .int 1]) ∧ (∀ H, SqT K H c [.int (-1), .int 0]) ∧ ∀ H, SqT K H d [.int 0, .int (-1)] := by
  obtain ⟨h1, h⟩ := He.ba h
  obtain ⟨h2, h⟩ := He.ba h
  obtain ⟨h3, h⟩ := He.ba h
  obtain ⟨h4, h5⟩ := He.ba h
  exact ⟨_, _, _, _, tupA_ok h1, tupA_ok h2, tupA_ok h3, tupA_ok h4, tupA_ok h5⟩
end

def faL : List He.Fa := [.glo "is_integer",
  .glo "is_place",
  .glo "check_place",
  .glo "greatest_divisor",
  .glo "divisors",
  .glo "plus",
  .glo "minus",
  .glo "form_of",
  .glo "are_numbers",
  .glo "is_colour",
  .glo "check_colour",
  .glo "is_row",
  .glo "check_rows",
  .glo "checked_block",
  .glo "colour_at",
  .glo "is_kept",
  .glo "kept_net",
  .glo "least_cell",
  .glo "neighbours",
  .glo "line_basis",
  .glo "basis_of",
  .glo "part_from",
  .glo "parts",
  .glo "part_at",
  .glo "touching",
  .glo "repainted",
  .glo "are_joined",
  .glo "_law_tape",
  .glo "_law_draw",
  .glo "_law_low",
  .glo "_law_spots",
  .glo "_law_seen",
  .glo "_law_net",
  .glo "_law_turned",
  .glo "_law_kinds",
  .glo "_law_carried",
  .glo "_law_divisor",
  .glo "_law_net_of",
  .glo "_law_keeps",
  .glo "_law_move",
  .glo "_law_tied",
  .glo "_law_letters",
  .glo "_law_square",
  .glo "_law_copied",
  .glo "_law_woven",
  .glo "_law_exact",
  .glo "_law_made",
  .glo "_law_is_kept",
  .glo "_law_least",
  .glo "_law_near",
  .glo "_law_gone",
  .glo "_law_edge",
  .glo "_law_borders_right",
  .glo "_law_neighbour",
  .glo "_law_joins",
  .glo "law",
  .glo "Net",
  .cls "Net",
  .mkr "Net",
  .glo "Carpet",
  .cls "Carpet",
  .mkr "Carpet",
  .glo "Woven",
  .cls "Woven",
  .mkr "Woven",
  .glo "Part",
  .cls "Part",
  .mkr "Part",
  .int "MOST_ROWS" 100,
  .int "MOST_LETTERS" 1000,
  .int "MOST_PLACES" 2000,
  .str "LETTERS" "abcdefghijklmnopqrstuvwxyz",
  .glo "STEPS",
  .free "len",
  .free "abs",
  .free "isinstance",
  .free "all",
  .free "sum",
  .free "sorted",
  .free "int",
  .free "list",
  .free "tuple",
  .free "str",
  .free "bool",
  .free "range",
  .free "enumerate",
  .noat "Net" "own_numbers",
  .noat "Carpet" "own_net",
  .noat "Woven" "own_net",
  .noat "Carpet" "own_text",
  .noat "Woven" "own_text",
  .noat "Part" "own_colour",
  .noat "Part" "own_start",
  .noat "Part" "known",
  .noat "Part" "own_places",
  .noat "Part" "own_basis",
  .noat "Part" "own_border"]
def fnL : List He5.DefA := [⟨fun K => (He.ga K "is_integer"), "is_integer", "is_integer", defArgs sis_integer, defBody sis_integer, defScope sis_integer, [], []⟩,
  ⟨fun K => (He.ga K "is_place"), "is_place", "is_place", defArgs sis_place, defBody sis_place, defScope sis_place, [], []⟩,
  ⟨fun K => (He.ga K "check_place"), "check_place", "check_place", defArgs scheck_place, defBody scheck_place, defScope scheck_place, [], []⟩,
  ⟨fun K => (He.ga K "greatest_divisor"), "greatest_divisor", "greatest_divisor", defArgs sgreatest_divisor, defBody sgreatest_divisor, defScope sgreatest_divisor, [], []⟩,
  ⟨fun K => (He.ga K "divisors"), "divisors", "divisors", defArgs sdivisors, defBody sdivisors, defScope sdivisors, [], []⟩,
  ⟨fun K => (He.ga K "plus"), "plus", "plus", defArgs splus, defBody splus, defScope splus, [], []⟩,
  ⟨fun K => (He.ga K "minus"), "minus", "minus", defArgs sminus, defBody sminus, defScope sminus, [], []⟩,
  ⟨fun K => (He.ga K "form_of"), "form_of", "form_of", defArgs sform_of, defBody sform_of, defScope sform_of, [], []⟩,
  ⟨fun K => (He.ga K "are_numbers"), "are_numbers", "are_numbers", defArgs sare_numbers, defBody sare_numbers, defScope sare_numbers, [], []⟩,
  ⟨fun K => (He.ma K (He.ga K "Net") "__init__"), "__init__", "Net.__init__", defArgs sNet___init__, defBody sNet___init__, defScope sNet___init__, [], []⟩,
  ⟨fun K => (He5.wf K (He.ga K "Net") "classmethod" "whole"), "whole", "Net.whole", defArgs sNet_whole, defBody sNet_whole, defScope sNet_whole, [], []⟩,
  ⟨fun K => (He5.wf K (He.ga K "Net") "property" "numbers"), "numbers", "Net.numbers", defArgs sNet_numbers, defBody sNet_numbers, defScope sNet_numbers, [], []⟩,
  ⟨fun K => (He5.wf K (He.ga K "Net") "property" "size"), "size", "Net.size", defArgs sNet_size, defBody sNet_size, defScope sNet_size, [], []⟩,
  ⟨fun K => (He.ma K (He.ga K "Net") "place_in_cell"), "place_in_cell", "Net.place_in_cell", defArgs sNet_place_in_cell, defBody sNet_place_in_cell, defScope sNet_place_in_cell, [], []⟩,
  ⟨fun K => (He.ma K (He.ga K "Net") "__contains__"), "__contains__", "Net.__contains__", defArgs sNet___contains__, defBody sNet___contains__, defScope sNet___contains__, [], []⟩,
  ⟨fun K => (He.ma K (He.ga K "Net") "__eq__"), "__eq__", "Net.__eq__", defArgs sNet___eq__, defBody sNet___eq__, defScope sNet___eq__, [], []⟩,
  ⟨fun K => (He.ma K (He.ga K "Net") "spots"), "spots", "Net.spots", defArgs sNet_spots, defBody sNet_spots, defScope sNet_spots, [], []⟩,
  ⟨fun K => (He.ma K (He.ga K "Net") "cell"), "cell", "Net.cell", defArgs sNet_cell, defBody sNet_cell, defScope sNet_cell, [], []⟩,
  ⟨fun K => (He.ga K "is_colour"), "is_colour", "is_colour", defArgs sis_colour, defBody sis_colour, defScope sis_colour, [], []⟩,
  ⟨fun K => (He.ga K "check_colour"), "check_colour", "check_colour", defArgs scheck_colour, defBody scheck_colour, defScope scheck_colour, [], []⟩,
  ⟨fun K => (He.ga K "is_row"), "is_row", "is_row", defArgs sis_row, defBody sis_row, defScope sis_row, [], []⟩,
  ⟨fun K => (He.ga K "check_rows"), "check_rows", "check_rows", defArgs scheck_rows, defBody scheck_rows, defScope scheck_rows, [], []⟩,
  ⟨fun K => (He.ga K "checked_block"), "checked_block", "checked_block", defArgs schecked_block, defBody schecked_block, defScope schecked_block, [], []⟩,
  ⟨fun K => (He.ga K "colour_at"), "colour_at", "colour_at", defArgs scolour_at, defBody scolour_at, defScope scolour_at, [], []⟩,
  ⟨fun K => (He.ga K "is_kept"), "is_kept", "is_kept", defArgs sis_kept, defBody sis_kept, defScope sis_kept, [], []⟩,
  ⟨fun K => (He.ga K "kept_net"), "kept_net", "kept_net", defArgs skept_net, defBody skept_net, defScope skept_net, [], []⟩,
  ⟨fun K => (He.ga K "least_cell"), "least_cell", "least_cell", defArgs sleast_cell, defBody sleast_cell, defScope sleast_cell, [], []⟩,
  ⟨fun K => (He.ma K (He.ga K "Carpet") "__init__"), "__init__", "Carpet.__init__", defArgs sCarpet___init__, defBody sCarpet___init__, defScope sCarpet___init__, [], [("shift", .int 0)]⟩,
  ⟨fun K => (He5.wf K (He.ga K "Carpet") "staticmethod" "on"), "on", "Carpet.on", defArgs sCarpet_on, defBody sCarpet_on, defScope sCarpet_on, [], []⟩,
  ⟨fun K => (He5.wf K (He.ga K "Carpet") "classmethod" "plain"), "plain", "Carpet.plain", defArgs sCarpet_plain, defBody sCarpet_plain, defScope sCarpet_plain, [], []⟩,
  ⟨fun K => (He5.wf K (He.ga K "Carpet") "property" "net"), "net", "Carpet.net", defArgs sCarpet_net, defBody sCarpet_net, defScope sCarpet_net, [], []⟩,
  ⟨fun K => (He5.wf K (He.ga K "Carpet") "property" "text"), "text", "Carpet.text", defArgs sCarpet_text, defBody sCarpet_text, defScope sCarpet_text, [], []⟩,
  ⟨fun K => (He.ma K (He.ga K "Carpet") "seen"), "seen", "Carpet.seen", defArgs sCarpet_seen, defBody sCarpet_seen, defScope sCarpet_seen, [], []⟩,
  ⟨fun K => (He.ma K (He.ga K "Carpet") "__getitem__"), "__getitem__", "Carpet.__getitem__", defArgs sCarpet___getitem__, defBody sCarpet___getitem__, defScope sCarpet___getitem__, [], []⟩,
  ⟨fun K => (He.ma K (He.ga K "Carpet") "__len__"), "__len__", "Carpet.__len__", defArgs sCarpet___len__, defBody sCarpet___len__, defScope sCarpet___len__, [], []⟩,
  ⟨fun K => (He.ma K (He.ga K "Carpet") "__eq__"), "__eq__", "Carpet.__eq__", defArgs sCarpet___eq__, defBody sCarpet___eq__, defScope sCarpet___eq__, [], []⟩,
  ⟨fun K => (He.ma K (He.ga K "Woven") "__init__"), "__init__", "Woven.__init__", defArgs sWoven___init__, defBody sWoven___init__, defScope sWoven___init__, [], []⟩,
  ⟨fun K => (He.ga K "neighbours"), "neighbours", "neighbours", defArgs sneighbours, defBody sneighbours, defScope sneighbours, [], []⟩,
  ⟨fun K => (He.ga K "line_basis"), "line_basis", "line_basis", defArgs sline_basis, defBody sline_basis, defScope sline_basis, [], []⟩,
  ⟨fun K => (He.ga K "basis_of"), "basis_of", "basis_of", defArgs sbasis_of, defBody sbasis_of, defScope sbasis_of, [], []⟩,
  ⟨fun K => (He.ma K (He.ga K "Part") "__init__"), "__init__", "Part.__init__", defArgs sPart___init__, defBody sPart___init__, defScope sPart___init__, [], []⟩,
  ⟨fun K => (He5.wf K (He.ga K "Part") "property" "colour"), "colour", "Part.colour", defArgs sPart_colour, defBody sPart_colour, defScope sPart_colour, [], []⟩,
  ⟨fun K => (He5.wf K (He.ga K "Part") "property" "start"), "start", "Part.start", defArgs sPart_start, defBody sPart_start, defScope sPart_start, [], []⟩,
  ⟨fun K => (He5.wf K (He.ga K "Part") "property" "places"), "places", "Part.places", defArgs sPart_places, defBody sPart_places, defScope sPart_places, [], []⟩,
  ⟨fun K => (He5.wf K (He.ga K "Part") "property" "size"), "size", "Part.size", defArgs sPart_size, defBody sPart_size, defScope sPart_size, [], []⟩,
  ⟨fun K => (He5.wf K (He.ga K "Part") "property" "border"), "border", "Part.border", defArgs sPart_border, defBody sPart_border, defScope sPart_border, [], []⟩,
  ⟨fun K => (He5.wf K (He.ga K "Part") "property" "net"), "net", "Part.net", defArgs sPart_net, defBody sPart_net, defScope sPart_net, [], []⟩,
  ⟨fun K => (He.ma K (He.ga K "Part") "carries"), "carries", "Part.carries", defArgs sPart_carries, defBody sPart_carries, defScope sPart_carries, [], []⟩,
  ⟨fun K => (He.ga K "part_from"), "part_from", "part_from", defArgs spart_from, defBody spart_from, defScope spart_from, [], []⟩,
  ⟨fun K => (He.ga K "parts"), "parts", "parts", defArgs sparts, defBody sparts, defScope sparts, [], []⟩,
  ⟨fun K => (He.ga K "part_at"), "part_at", "part_at", defArgs spart_at, defBody spart_at, defScope spart_at, [], []⟩,
  ⟨fun K => (He.ga K "touching"), "touching", "touching", defArgs stouching, defBody stouching, defScope stouching, [], []⟩,
  ⟨fun K => (He.ga K "repainted"), "repainted", "repainted", defArgs srepainted, defBody srepainted, defScope srepainted, [], []⟩,
  ⟨fun K => (He.ga K "are_joined"), "are_joined", "are_joined", defArgs sare_joined, defBody sare_joined, defScope sare_joined, [], []⟩,
  ⟨fun K => (He.ga K "_law_tape"), "_law_tape", "_law_tape", defArgs s_law_tape, defBody s_law_tape, defScope s_law_tape, [], []⟩,
  ⟨fun K => (He.ga K "_law_draw"), "_law_draw", "_law_draw", defArgs s_law_draw, defBody s_law_draw, defScope s_law_draw, [], []⟩,
  ⟨fun K => (He.ga K "_law_low"), "_law_low", "_law_low", defArgs s_law_low, defBody s_law_low, defScope s_law_low, [], []⟩,
  ⟨fun K => (He.ga K "_law_spots"), "_law_spots", "_law_spots", defArgs s_law_spots, defBody s_law_spots, defScope s_law_spots, [], []⟩,
  ⟨fun K => (He.ga K "_law_seen"), "_law_seen", "_law_seen", defArgs s_law_seen, defBody s_law_seen, defScope s_law_seen, [], []⟩,
  ⟨fun K => (He.ga K "_law_net"), "_law_net", "_law_net", defArgs s_law_net, defBody s_law_net, defScope s_law_net, [], []⟩,
  ⟨fun K => (He.ga K "_law_turned"), "_law_turned", "_law_turned", defArgs s_law_turned, defBody s_law_turned, defScope s_law_turned, [], []⟩,
  ⟨fun K => (He.ga K "_law_kinds"), "_law_kinds", "_law_kinds", defArgs s_law_kinds, defBody s_law_kinds, defScope s_law_kinds, [], []⟩,
  ⟨fun K => (He.ga K "_law_carried"), "_law_carried", "_law_carried", defArgs s_law_carried, defBody s_law_carried, defScope s_law_carried, [], []⟩,
  ⟨fun K => (He.ga K "_law_divisor"), "_law_divisor", "_law_divisor", defArgs s_law_divisor, defBody s_law_divisor, defScope s_law_divisor, [], []⟩,
  ⟨fun K => (He.ga K "_law_net_of"), "_law_net_of", "_law_net_of", defArgs s_law_net_of, defBody s_law_net_of, defScope s_law_net_of, [], []⟩,
  ⟨fun K => (He.ga K "_law_keeps"), "_law_keeps", "_law_keeps", defArgs s_law_keeps, defBody s_law_keeps, defScope s_law_keeps, [], []⟩,
  ⟨fun K => (He.ga K "_law_move"), "_law_move", "_law_move", defArgs s_law_move, defBody s_law_move, defScope s_law_move, [], []⟩,
  ⟨fun K => (He.ga K "_law_tied"), "_law_tied", "_law_tied", defArgs s_law_tied, defBody s_law_tied, defScope s_law_tied, [], []⟩,
  ⟨fun K => (He.ga K "_law_letters"), "_law_letters", "_law_letters", defArgs s_law_letters, defBody s_law_letters, defScope s_law_letters, [], []⟩,
  ⟨fun K => (He.ga K "_law_square"), "_law_square", "_law_square", defArgs s_law_square, defBody s_law_square, defScope s_law_square, [], []⟩,
  ⟨fun K => (He.ga K "_law_copied"), "_law_copied", "_law_copied", defArgs s_law_copied, defBody s_law_copied, defScope s_law_copied, [], []⟩,
  ⟨fun K => (He.ga K "_law_woven"), "_law_woven", "_law_woven", defArgs s_law_woven, defBody s_law_woven, defScope s_law_woven, [], []⟩,
  ⟨fun K => (He.ga K "_law_exact"), "_law_exact", "_law_exact", defArgs s_law_exact, defBody s_law_exact, defScope s_law_exact, [], []⟩,
  ⟨fun K => (He.ga K "_law_made"), "_law_made", "_law_made", defArgs s_law_made, defBody s_law_made, defScope s_law_made, [], []⟩,
  ⟨fun K => (He.ga K "_law_is_kept"), "_law_is_kept", "_law_is_kept", defArgs s_law_is_kept, defBody s_law_is_kept, defScope s_law_is_kept, [], []⟩,
  ⟨fun K => (He.ga K "_law_least"), "_law_least", "_law_least", defArgs s_law_least, defBody s_law_least, defScope s_law_least, [], []⟩,
  ⟨fun K => (He.ga K "_law_near"), "_law_near", "_law_near", defArgs s_law_near, defBody s_law_near, defScope s_law_near, [], []⟩,
  ⟨fun K => (He.ga K "_law_gone"), "_law_gone", "_law_gone", defArgs s_law_gone, defBody s_law_gone, defScope s_law_gone, [], []⟩,
  ⟨fun K => (He.ga K "_law_edge"), "_law_edge", "_law_edge", defArgs s_law_edge, defBody s_law_edge, defScope s_law_edge, [], []⟩,
  ⟨fun K => (He.ga K "_law_borders_right"), "_law_borders_right", "_law_borders_right", defArgs s_law_borders_right, defBody s_law_borders_right, defScope s_law_borders_right, [], []⟩,
  ⟨fun K => (He.ga K "_law_neighbour"), "_law_neighbour", "_law_neighbour", defArgs s_law_neighbour, defBody s_law_neighbour, defScope s_law_neighbour, [], []⟩,
  ⟨fun K => (He.ga K "_law_joins"), "_law_joins", "_law_joins", defArgs s_law_joins, defBody s_law_joins, defScope s_law_joins, [], []⟩,
  ⟨fun K => (He.ga K "law"), "law", "law", defArgs slaw, defBody slaw, defScope slaw, [], []⟩]
def exL (K : PySem.W.Frag) : List Bool := [stepsB K,
  propB K "Carpet" "Carpet" "net",
  propB K "Woven" "Carpet" "net",
  propB K "Carpet" "Carpet" "text",
  propB K "Woven" "Carpet" "text",
  propB K "Net" "Net" "numbers",
  propB K "Net" "Net" "size",
  propB K "Part" "Part" "border",
  propB K "Part" "Part" "colour",
  propB K "Part" "Part" "net",
  propB K "Part" "Part" "places",
  propB K "Part" "Part" "size",
  propB K "Part" "Part" "start",
  methB K "Net" "Net" "place_in_cell",
  methB K "Net" "Net" "spots",
  methB K "Net" "Net" "cell",
  methB K "Part" "Part" "carries",
  methB K "Carpet" "Carpet" "seen",
  methB K "Woven" "Carpet" "seen",
  spcB K "Net" "Net" "__contains__",
  spcB K "Net" "Net" "__eq__",
  spcB K "Carpet" "Carpet" "__getitem__",
  spcB K "Woven" "Carpet" "__getitem__",
  spcB K "Carpet" "Carpet" "__len__",
  spcB K "Woven" "Carpet" "__len__",
  spcB K "Woven" "Carpet" "__eq__",
  PySem.W.fnIn K (He.ma K (He.ga K "Carpet") "__getitem__"),
  He.eqO (PySem.W.findIn K (.ref (He.ga K "Woven")) "__ne__") (some (some (.builtin "object.__ne__"))),
  decide (PySem.W.mroIn K (He.ga K "Woven") (.type "object") = some true),
  crB K "Net",
  crB K "Carpet",
  cmB K "Net" "whole",
  cmB K "Carpet" "plain",
  smB K "Carpet" "on",
  He.eqO (PySem.W.findIn K (.ref (He.ga K "Net")) "__class__") (some (some (.builtin "object.__class__"))),
  He.eqO (PySem.W.findIn K (.ref (He.ga K "Carpet")) "__class__") (some (some (.builtin "object.__class__"))),
  He.eqO (PySem.W.findIn K (.ref (He.ga K "Woven")) "__class__") (some (some (.builtin "object.__class__"))),
  He.eqO (PySem.W.findIn K (.ref (He.ga K "Part")) "__class__") (some (some (.builtin "object.__class__"))),
  decide (PySem.W.mroIn K (He.ga K "Net") (.type "object") = some true),
  decide (PySem.W.mroIn K (He.ga K "Carpet") (.type "object") = some true),
  decide (PySem.W.mroIn K (He.ga K "Part") (.type "object") = some true),
  He.eqO (PySem.W.specialIn K (.builtin "object.__class__") "__get__") (some (some (.builtin "getset_descriptor.__get__"))),
  decide (PySem.W.takesIn K (.builtin "object.__class__") = some true),
  decide (PySem.W.kitOne K (.ref (He.ga K "Net")) (.ref (He.ga K "Net")) = some true),
  decide (PySem.W.kitOne K (.ref (He.ga K "Woven")) (.ref (He.ga K "Carpet")) = some true)]
theorem tx_of {K : PySem.W.Frag} {h : Heap} {mg : Str → Option Value} (X : K.In h) (G : h.Ns mainGlobals mg) (c : SaysC exL faL fnL K) : Tx K mg where
  f_is_integer := c.def_ 0 rfl
  f_is_place := c.def_ 1 rfl
  f_check_place := c.def_ 2 rfl
  f_greatest_divisor := c.def_ 3 rfl
  f_divisors := c.def_ 4 rfl
  f_plus := c.def_ 5 rfl
  f_minus := c.def_ 6 rfl
  f_form_of := c.def_ 7 rfl
  f_are_numbers := c.def_ 8 rfl
  f_Net___init__ := c.def_ 9 rfl
  f_Net_whole := c.def_ 10 rfl
  f_Net_numbers := c.def_ 11 rfl
  f_Net_size := c.def_ 12 rfl
  f_Net_place_in_cell := c.def_ 13 rfl
  f_Net___contains__ := c.def_ 14 rfl
  f_Net___eq__ := c.def_ 15 rfl
  f_Net_spots := c.def_ 16 rfl
  f_Net_cell := c.def_ 17 rfl
  f_is_colour := c.def_ 18 rfl
  f_check_colour := c.def_ 19 rfl
  f_is_row := c.def_ 20 rfl
  f_check_rows := c.def_ 21 rfl
  f_checked_block := c.def_ 22 rfl
  f_colour_at := c.def_ 23 rfl
  f_is_kept := c.def_ 24 rfl
  f_kept_net := c.def_ 25 rfl
  f_least_cell := c.def_ 26 rfl
  f_Carpet___init__ := c.def_ 27 rfl
  f_Carpet_on := c.def_ 28 rfl
  f_Carpet_plain := c.def_ 29 rfl
  f_Carpet_net := c.def_ 30 rfl
  f_Carpet_text := c.def_ 31 rfl
  f_Carpet_seen := c.def_ 32 rfl
  f_Carpet___getitem__ := c.def_ 33 rfl
  f_Carpet___len__ := c.def_ 34 rfl
  f_Carpet___eq__ := c.def_ 35 rfl
  f_Woven___init__ := c.def_ 36 rfl
  f_neighbours := c.def_ 37 rfl
  f_line_basis := c.def_ 38 rfl
  f_basis_of := c.def_ 39 rfl
  f_Part___init__ := c.def_ 40 rfl
  f_Part_colour := c.def_ 41 rfl
  f_Part_start := c.def_ 42 rfl
  f_Part_places := c.def_ 43 rfl
  f_Part_size := c.def_ 44 rfl
  f_Part_border := c.def_ 45 rfl
  f_Part_net := c.def_ 46 rfl
  f_Part_carries := c.def_ 47 rfl
  f_part_from := c.def_ 48 rfl
  f_parts := c.def_ 49 rfl
  f_part_at := c.def_ 50 rfl
  f_touching := c.def_ 51 rfl
  f_repainted := c.def_ 52 rfl
  f_are_joined := c.def_ 53 rfl
  f__law_tape := c.def_ 54 rfl
  f__law_draw := c.def_ 55 rfl
  f__law_low := c.def_ 56 rfl
  f__law_spots := c.def_ 57 rfl
  f__law_seen := c.def_ 58 rfl
  f__law_net := c.def_ 59 rfl
  f__law_turned := c.def_ 60 rfl
  f__law_kinds := c.def_ 61 rfl
  f__law_carried := c.def_ 62 rfl
  f__law_divisor := c.def_ 63 rfl
  f__law_net_of := c.def_ 64 rfl
  f__law_keeps := c.def_ 65 rfl
  f__law_move := c.def_ 66 rfl
  f__law_tied := c.def_ 67 rfl
  f__law_letters := c.def_ 68 rfl
  f__law_square := c.def_ 69 rfl
  f__law_copied := c.def_ 70 rfl
  f__law_woven := c.def_ 71 rfl
  f__law_exact := c.def_ 72 rfl
  f__law_made := c.def_ 73 rfl
  f__law_is_kept := c.def_ 74 rfl
  f__law_least := c.def_ 75 rfl
  f__law_near := c.def_ 76 rfl
  f__law_gone := c.def_ 77 rfl
  f__law_edge := c.def_ 78 rfl
  f__law_borders_right := c.def_ 79 rfl
  f__law_neighbour := c.def_ 80 rfl
  f__law_joins := c.def_ 81 rfl
  f_law := c.def_ 82 rfl
  g_is_integer := He.glo_ok X G (c.fact 0 rfl)
  g_is_place := He.glo_ok X G (c.fact 1 rfl)
  g_check_place := He.glo_ok X G (c.fact 2 rfl)
  g_greatest_divisor := He.glo_ok X G (c.fact 3 rfl)
  g_divisors := He.glo_ok X G (c.fact 4 rfl)
  g_plus := He.glo_ok X G (c.fact 5 rfl)
  g_minus := He.glo_ok X G (c.fact 6 rfl)
  g_form_of := He.glo_ok X G (c.fact 7 rfl)
  g_are_numbers := He.glo_ok X G (c.fact 8 rfl)
  g_is_colour := He.glo_ok X G (c.fact 9 rfl)
  g_check_colour := He.glo_ok X G (c.fact 10 rfl)
  g_is_row := He.glo_ok X G (c.fact 11 rfl)
  g_check_rows := He.glo_ok X G (c.fact 12 rfl)
  g_checked_block := He.glo_ok X G (c.fact 13 rfl)
  g_colour_at := He.glo_ok X G (c.fact 14 rfl)
  g_is_kept := He.glo_ok X G (c.fact 15 rfl)
  g_kept_net := He.glo_ok X G (c.fact 16 rfl)
  g_least_cell := He.glo_ok X G (c.fact 17 rfl)
  g_neighbours := He.glo_ok X G (c.fact 18 rfl)
  g_line_basis := He.glo_ok X G (c.fact 19 rfl)
  g_basis_of := He.glo_ok X G (c.fact 20 rfl)
  g_part_from := He.glo_ok X G (c.fact 21 rfl)
  g_parts := He.glo_ok X G (c.fact 22 rfl)
  g_part_at := He.glo_ok X G (c.fact 23 rfl)
  g_touching := He.glo_ok X G (c.fact 24 rfl)
  g_repainted := He.glo_ok X G (c.fact 25 rfl)
  g_are_joined := He.glo_ok X G (c.fact 26 rfl)
  g__law_tape := He.glo_ok X G (c.fact 27 rfl)
  g__law_draw := He.glo_ok X G (c.fact 28 rfl)
  g__law_low := He.glo_ok X G (c.fact 29 rfl)
  g__law_spots := He.glo_ok X G (c.fact 30 rfl)
  g__law_seen := He.glo_ok X G (c.fact 31 rfl)
  g__law_net := He.glo_ok X G (c.fact 32 rfl)
  g__law_turned := He.glo_ok X G (c.fact 33 rfl)
  g__law_kinds := He.glo_ok X G (c.fact 34 rfl)
  g__law_carried := He.glo_ok X G (c.fact 35 rfl)
  g__law_divisor := He.glo_ok X G (c.fact 36 rfl)
  g__law_net_of := He.glo_ok X G (c.fact 37 rfl)
  g__law_keeps := He.glo_ok X G (c.fact 38 rfl)
  g__law_move := He.glo_ok X G (c.fact 39 rfl)
  g__law_tied := He.glo_ok X G (c.fact 40 rfl)
  g__law_letters := He.glo_ok X G (c.fact 41 rfl)
  g__law_square := He.glo_ok X G (c.fact 42 rfl)
  g__law_copied := He.glo_ok X G (c.fact 43 rfl)
  g__law_woven := He.glo_ok X G (c.fact 44 rfl)
  g__law_exact := He.glo_ok X G (c.fact 45 rfl)
  g__law_made := He.glo_ok X G (c.fact 46 rfl)
  g__law_is_kept := He.glo_ok X G (c.fact 47 rfl)
  g__law_least := He.glo_ok X G (c.fact 48 rfl)
  g__law_near := He.glo_ok X G (c.fact 49 rfl)
  g__law_gone := He.glo_ok X G (c.fact 50 rfl)
  g__law_edge := He.glo_ok X G (c.fact 51 rfl)
  g__law_borders_right := He.glo_ok X G (c.fact 52 rfl)
  g__law_neighbour := He.glo_ok X G (c.fact 53 rfl)
  g__law_joins := He.glo_ok X G (c.fact 54 rfl)
  g_law := He.glo_ok X G (c.fact 55 rfl)
  g_Net := He.glo_ok X G (c.fact 56 rfl)
  c_Net := He.cls_ok (c.fact 57 rfl)
  mk_Net := He.mkr_ok (c.fact 58 rfl)
  g_Carpet := He.glo_ok X G (c.fact 59 rfl)
  c_Carpet := He.cls_ok (c.fact 60 rfl)
  mk_Carpet := He.mkr_ok (c.fact 61 rfl)
  g_Woven := He.glo_ok X G (c.fact 62 rfl)
  c_Woven := He.cls_ok (c.fact 63 rfl)
  mk_Woven := He.mkr_ok (c.fact 64 rfl)
  g_Part := He.glo_ok X G (c.fact 65 rfl)
  c_Part := He.cls_ok (c.fact 66 rfl)
  mk_Part := He.mkr_ok (c.fact 67 rfl)
  g_MOST_ROWS := He.int_ok X G (c.fact 68 rfl)
  g_MOST_LETTERS := He.int_ok X G (c.fact 69 rfl)
  g_MOST_PLACES := He.int_ok X G (c.fact 70 rfl)
  g_LETTERS := He.str_ok X G (c.fact 71 rfl)
  g_STEPS := He.glo_ok X G (c.fact 72 rfl)
  steps := stepsB_ok (c.more 0 rfl)
  b_len := He.free_ok X G (c.fact 73 rfl)
  b_abs := He.free_ok X G (c.fact 74 rfl)
  b_isinstance := He.free_ok X G (c.fact 75 rfl)
  b_all := He.free_ok X G (c.fact 76 rfl)
  b_sum := He.free_ok X G (c.fact 77 rfl)
  b_sorted := He.free_ok X G (c.fact 78 rfl)
  b_int := He.free_ok X G (c.fact 79 rfl)
  b_list := He.free_ok X G (c.fact 80 rfl)
  b_tuple := He.free_ok X G (c.fact 81 rfl)
  b_str := He.free_ok X G (c.fact 82 rfl)
  b_bool := He.free_ok X G (c.fact 83 rfl)
  b_range := He.free_ok X G (c.fact 84 rfl)
  b_enumerate := He.free_ok X G (c.fact 85 rfl)
  n_Net_own_numbers := He.noat_ok (c.fact 86 rfl)
  n_Carpet_own_net := He.noat_ok (c.fact 87 rfl)
  n_Woven_own_net := He.noat_ok (c.fact 88 rfl)
  n_Carpet_own_text := He.noat_ok (c.fact 89 rfl)
  n_Woven_own_text := He.noat_ok (c.fact 90 rfl)
  n_Part_own_colour := He.noat_ok (c.fact 91 rfl)
  n_Part_own_start := He.noat_ok (c.fact 92 rfl)
  n_Part_known := He.noat_ok (c.fact 93 rfl)
  n_Part_own_places := He.noat_ok (c.fact 94 rfl)
  n_Part_own_basis := He.noat_ok (c.fact 95 rfl)
  n_Part_own_border := He.noat_ok (c.fact 96 rfl)
  p_Carpet_net := propB_ok (c.more 1 rfl)
  p_Woven_net := propB_ok (c.more 2 rfl)
  p_Carpet_text := propB_ok (c.more 3 rfl)
  p_Woven_text := propB_ok (c.more 4 rfl)
  p_Net_numbers := propB_ok (c.more 5 rfl)
  p_Net_size := propB_ok (c.more 6 rfl)
  p_Part_border := propB_ok (c.more 7 rfl)
  p_Part_colour := propB_ok (c.more 8 rfl)
  p_Part_net := propB_ok (c.more 9 rfl)
  p_Part_places := propB_ok (c.more 10 rfl)
  p_Part_size := propB_ok (c.more 11 rfl)
  p_Part_start := propB_ok (c.more 12 rfl)
  m_Net_place_in_cell := methB_ok (c.more 13 rfl)
  m_Net_spots := methB_ok (c.more 14 rfl)
  m_Net_cell := methB_ok (c.more 15 rfl)
  m_Part_carries := methB_ok (c.more 16 rfl)
  m_Carpet_seen := methB_ok (c.more 17 rfl)
  m_Woven_seen := methB_ok (c.more 18 rfl)
  x_Net__contains__ := spcB_ok (c.more 19 rfl)
  x_Net__eq__ := spcB_ok (c.more 20 rfl)
  x_Carpet__getitem__ := spcB_ok (c.more 21 rfl)
  x_Woven__getitem__ := spcB_ok (c.more 22 rfl)
  x_Carpet__len__ := spcB_ok (c.more 23 rfl)
  x_Woven__len__ := spcB_ok (c.more 24 rfl)
  x_Woven__eq__ := spcB_ok (c.more 25 rfl)
  kf_Carpet___getitem__ := c.more 26 rfl
  ne_Woven := He.eqO_ok (c.more 27 rfl)
  mo_Woven := of_decide_eq_true (c.more 28 rfl)
  cr_Net := crB_ok (c.more 29 rfl)
  cr_Carpet := crB_ok (c.more 30 rfl)
  m_Net_whole := cmB_ok (c.more 31 rfl)
  m_Carpet_plain := cmB_ok (c.more 32 rfl)
  s_Carpet_on := smB_ok (c.more 33 rfl)
  ic_Net := He.eqO_ok (c.more 34 rfl)
  ic_Carpet := He.eqO_ok (c.more 35 rfl)
  ic_Woven := He.eqO_ok (c.more 36 rfl)
  ic_Part := He.eqO_ok (c.more 37 rfl)
  mo_Net := of_decide_eq_true (c.more 38 rfl)
  mo_Carpet := of_decide_eq_true (c.more 39 rfl)
  mo_Part := of_decide_eq_true (c.more 40 rfl)
  sp_class := He.eqO_ok (c.more 41 rfl)
  tk_class := of_decide_eq_true (c.more 42 rfl)
  i_Net := of_decide_eq_true (c.more 43 rfl)
  i_Woven := of_decide_eq_true (c.more 44 rfl)
def loose0 : List Str := ["_wall", "CarpetError", "InvalidNet", "InvalidPlace", "InvalidRows", "InvalidColour", "InvalidNumber", "InvalidText", "LimitExceeded", "is_integer", "is_place", "check_place", "greatest_divisor", "bezout", "divisors"]
def loose1 : List Str := ["plus", "minus", "MATRICES", "turned", "form_of", "are_numbers", "common_numbers", "Net", "LETTERS", "MOST_ROWS", "MOST_LETTERS", "MOST_PLACES", "is_colour", "check_colour", "is_row"]
def loose2 : List Str := ["check_rows", "checked_block", "colour_at", "is_kept", "kept_net", "least_cell", "Carpet", "Woven", "STEPS", "neighbours", "line_basis", "basis_of", "Part", "part_from", "parts"]
def loose3 : List Str := ["part_at", "touching", "repainted", "are_joined", "_law_tape", "_law_draw", "_law_low", "_law_spots", "_law_seen", "_law_net", "_law_turned", "_law_kinds", "_law_carried", "_law_divisor", "_law_net_of"]
def loose4 : List Str := ["_law_keeps", "_law_move", "_law_tied", "_law_letters", "_law_square", "_law_copied", "_law_woven", "_law_exact", "_law_made", "_law_is_kept", "_law_least", "_law_near", "_law_gone", "_law_edge", "_law_borders_right"]
def loose5 : List Str := ["_law_neighbour", "_law_joins"]
def asL : List Addr := [mainGlobals] ++ [2, 404, 403, 607, 606, 628, 627, 741, 740, 175, 174, 180, 179, 187, 186, 194, 193, 206, 205, 213, 212, 220, 219, 243, 242, 248, 247, 269, 268, 286, 285, 296, 295, 304, 303, 319, 318, 326, 325, 354, 353, 380, 379, 387, 386, 415, 414, 422, 421, 427, 426, 434, 433, 441, 440, 448, 447, 455, 454, 460, 459, 465, 464, 480, 479, 473, 487, 486, 497, 496, 507, 506, 515, 514, 535, 534, 542, 541, 556, 555, 563, 562, 625, 624, 640, 639, 647, 646, 654, 653, 668, 667, 675, 674, 683, 682, 691, 690, 707, 706, 715, 714, 723, 722, 738, 737, 752, 751, 759, 758, 764, 763, 771, 770, 776, 775, 783, 782, 790, 789, 797, 796, 804, 803, 809, 808, 816, 815, 823, 822, 830, 829, 837, 836, 844, 843, 851, 850, 858, 857, 863, 862, 868, 867, 873, 872, 878, 877, 883, 882, 888, 887, 893, 892, 898, 897, 903, 902, 910, 909, 917, 916, 924, 923, 931, 930, 936, 935, 941, 940, 948, 947, 955, 954, 962, 961, 278, 288, 297, 305, 489, 499, 508, 516, 522, 528, 676, 684, 692, 700, 708, 716, 724, 629, 630, 631, 632, 633, 634, 635, 636, 637]
def looseL : List Str := loose0 ++ loose1 ++ loose2 ++ loose3 ++ loose4 ++ loose5
end Cp
set_option Elab.async false
set_option linter.all false
set_option maxRecDepth 100000
set_option maxHeartbeats 0
/-! H1: the top run in the kernel, for both answers of the world's row. -/
namespace Cp
open PySem PySem.W PySem.Calls PyProof.Rows
abbrev RR : OpenRow := OpenLaw.row PySem.Challenge.rw_carpets_k59_whole_parts_repainted_one_by
abbrev qv : Program := view RR.prog [84]
abbrev hkC : Hook := hookC asL exL faL fnL
noncomputable def obT (s : SharedT) : He.AlD := obsCG asL exL faL fnL (HandSHeadRun.getT s)
theorem obT_eq (s : SharedT) : obT s = hkC.obs s.abs := obsCG_eq (HandSHeadRun.getT_eq s)
theorem runF (w : World) : HandSHeadRun.RunEq RR qv hkC obT 9000 looseL (w.withFollow "special-get-raises" false) := by
  intro os
  kernel_rfl
theorem runT (w : World) : HandSHeadRun.RunEq RR qv hkC obT 9000 looseL (w.withFollow "special-get-raises" true) := by
  intro os
  kernel_rfl
theorem runA (w : World) : HandSHeadRun.RunEq RR qv hkC obT 9000 looseL w := byRow2 "special-get-raises" runF runT w
end Cp
set_option Elab.async false
set_option linter.all false
set_option maxRecDepth 100000
set_option maxHeartbeats 2000000
/-! F0: facts of heaps, steps of readings. -/
namespace Cp
open PySem PySem.Spec PyProof.Rows L2

theorem hu64 {A : Around} {k : Nat} (hr : Room k A) : A.units + 64 < cLine := by have := hr.un; omega
theorem hu65 {A : Around} {k : Nat} (hr : Room k A) : A.units + 65 < cLine := by have := hr.un; omega
/-! ### heaps -/
theorem Same.up {H H' : Hp} (s : Same H H') {a : Addr} {o : HO} (h : H a = some o) : H' a = some o := s a o h
theorem Same.upS {K : PySem.W.Frag} {H H' : Hp} (s : Same H H') {a : Addr} {xs : List V} (h : SqT K H a xs) : SqT K H' a xs := by
  rcases h with (h | ⟨o, h⟩) | h
  · exact .inl (.inl (s _ _ h))
  · exact .inl (.inr ⟨o, s _ _ h⟩)
  · exact .inr h
theorem Same.upL {K : PySem.W.Frag} {H H' : Hp} (s : Same H H') {a : Addr} {xs : List V} (h : SqL K H a xs) : SqL K H' a xs := by
  rcases h with (h | ⟨o, h⟩) | h
  · exact .inl (.inl (s _ _ h))
  · exact .inl (.inr ⟨o, s _ _ h⟩)
  · exact .inr h
theorem Same.upS' {K : PySem.W.Frag} {H H' : Hp} (s : Same H H') {a : Addr} {xs : List V} (h : SqL K H a xs) : SqL K H' a xs := Same.upL s h
theorem Chg.ne {p a : Addr} {o u : HO} {H H' : Hp} (c : Chg p o H H') (h : H a = some u) (d : u ≠ o) : a ≠ p := fun e => by
  subst e; have c1 := c.1; rw [h] at c1; exact d (Option.some.inj c1)
theorem Chg.up {p a : Addr} {o u : HO} {H H' : Hp} (c : Chg p o H H') (h : H a = some u) (d : u ≠ o) : H' a = some u := c.2 a u (c.ne h d) h
theorem Chg.upS {K : PySem.W.Frag} {p a : Addr} {o : HO} {H H' : Hp} {xs : List V} (c : Chg p o H H') (h : SqT K H a xs) (d : ∀ xs, HO.tup xs ≠ o) (d2 : ∀ b u, HO.frz b u ≠ o) : SqT K H' a xs := by
  rcases h with (h | ⟨o, h⟩) | h
  · exact .inl (.inl (c.up h (d _)))
  · exact .inl (.inr ⟨o, c.up h (d2 _ _)⟩)
  · exact .inr h
theorem Same.chg' {p : Addr} {o : HO} {H0 H H' : Hp} (s : Same H0 H) (c : Chg p o H H') (n : H0 p = none) : Same H0 H' := fun b u e => c.2 b u (fun z => by subst z; rw [n] at e; cases e) (s b u e)
theorem sq_of {K : PySem.W.Frag} {H : Hp} {a : Addr} {xs : List V} (h : H a = some (.tup xs)) : SqT K H a xs := .inl (.inl h)
theorem sl_of {K : PySem.W.Frag} {H : Hp} {a : Addr} {xs : List V} (h : H a = some (.lst xs)) : SqL K H a xs := .inl (.inl h)
/-! ### steps -/
section
variable {K : PySem.W.Frag} {σ : L2.St} {H : Hp} {Q : VK} {ta tb tc : TE} {t t2 : TS} {D : Ends} {v : V}
theorem w_var {i : Nat} (h : σ[i]? = some (some v)) (q : Q v H) : tVar i σ H Q := ⟨v, h, q⟩
theorem w_c (q : Q v H) : tC v σ H Q := q
theorem w_op {r : R2} (q : ta σ H fun x H1 => tb σ H1 fun y H2 => r x y H2 Q) : tOp r ta tb σ H Q := q
theorem w_seq (q : t { D with nx := t2 D } σ H) : tSeq t t2 D σ H := q
theorem w_asg {g : TG} (q : ta σ H fun x H1 => g x σ H1 D.nx) : tAsg ta g D σ H := q
theorem w_gname {i : Nat} {q : L2.St → Hp → Prop} (h : q (σ.set i (some v)) H) : gName i v σ H q := h
theorem w_ret (q : ta σ H D.rt) : tRet ta D σ H := q
theorem w_nil {Q : List V → Hp → Prop} (q : Q [] H) : tNil σ H Q := q
theorem w_cons {tr : TA} {Q : List V → Hp → Prop} (q : ta σ H fun x H1 => tr σ H1 fun xs H2 => Q (x :: xs) H2) : tCons ta tr σ H Q := q
theorem w_tup {ts : TA} (q : ts σ H fun xs H1 => xs.length ≤ sizeLine ∧ ∀ p H2, H1 p = none → Same H1 H2 → H2 p = some (.tup xs) → Q (.ref p) H2) : tTupS ts σ H Q := q
theorem w_lst {ts : TA} (q : ts σ H fun xs H1 => xs.length ≤ sizeLine ∧ ∀ p H2, H1 p = none → Same H1 H2 → H2 p = some (.lst xs) → Q (.ref p) H2) : tLstS ts σ H Q := q
theorem w_cb {r : List V → Hp → VK → Prop} {ts : TA} (q : ts σ H fun vs H1 => r vs H1 Q) : tCB r ts σ H Q := q
theorem w_callR {sp : Sp} {ts : TA} (q : ts σ H fun vs H1 => sp vs H1 Q E0) : tCallR sp ts σ H Q := q
theorem w_add {i j : Int} (q : Q (.int (i + j)) H) : rI0 (fun i j => .int (i + j)) (.int i) (.int j) H Q := ⟨i, j, rfl, rfl, q⟩
theorem w_i0 {f : Int → Int → V} {i j : Int} (q : Q (f i j) H) : rI0 f (.int i) (.int j) H Q := ⟨i, j, rfl, rfl, q⟩
theorem w_iC {C : Int → Int → Prop} {f : Int → Int → V} {i j : Int} (c : C i j) (q : Q (f i j) H) : rI C f (.int i) (.int j) H Q := ⟨i, j, rfl, rfl, c, q⟩
theorem w_ixT {a : Addr} {xs : List V} {i : Int} {x : V} (h : SqT K H a xs) (e : atI xs i = some x) (q : Q x H) : rIxT K (.ref a) (.int i) H Q := ⟨a, xs, i, x, rfl, rfl, h, e, q⟩
theorem w_ixL {a : Addr} {xs : List V} {i : Int} {x : V} (h : SqL K H a xs) (e : atI xs i = some x) (q : Q x H) : rIxL K (.ref a) (.int i) H Q := ⟨a, xs, i, x, rfl, rfl, h, e, q⟩
theorem w_fld {f : Str} (h : ta σ H fun x H1 => ∃ a C dx fs v, x = .ref a ∧ H1 a = some (.ins C dx fs) ∧ Cls K C ∧ NoAttr K C f ∧ fs.lookup f = some v ∧ Q v H1) : tFld K ta f σ H Q := h
theorem w_gtup {n : Nat} {ts : TGs} {a : Addr} {xs : List V} {q : L2.St → Hp → Prop} (h : SqT K H a xs) (e : xs.length = n) (z : ts xs σ H q) : gTup K n ts (.ref a) σ H q := ⟨a, xs, rfl, h, e, z⟩
theorem w_gcons {g : TG} {ts : TGs} {r : List V} {q : L2.St → Hp → Prop} (z : g v σ H fun σ' H' => ts r σ' H' q) : gCons g ts (v :: r) σ H q := ⟨v, r, rfl, z⟩
theorem w_test {k : Bool → Hp → Prop} (q : ta σ H fun x H' => ∃ c, x = .bl c ∧ k c H') : tTest ta σ H k := q
theorem w_not {tt : TT} {k : Bool → Hp → Prop} (q : tt σ H fun c H1 => k (!c) H1) : tNot tt σ H k := q
theorem w_ifs {tt : TT} (q : tt σ H fun b H1 => if b = true then t D σ H1 else t2 D σ H1) : tIfS tt t t2 D σ H := q
theorem w_if {tt : TT} (q : tt σ H fun c H1 => if c = true then ta σ H1 Q else tb σ H1 Q) : tIf tt ta tb σ H Q := q
theorem w_expr (q : ta σ H fun _ H1 => D.nx σ H1) : tDrop ta D σ H := q
theorem w_andV (q : ta σ H fun x H1 => ∃ c, x = .bl c ∧ if c = true then tb σ H1 Q else Q (.bl false) H1) : tAndV ta tb σ H Q := q
theorem w_un {r : V → Hp → VK → Prop} (q : ta σ H fun x H1 => r x H1 Q) : tUn r ta σ H Q := q
theorem w_eqI {i j : Int} (q : Q (.bl (decide (i = j))) H) : rEq (.int i) (.int j) H Q := by
  refine ⟨rfl, ?_⟩
  have e : decide (V.int i = V.int j) = decide (i = j) := by by_cases h : i = j <;> simp [h]
  rw [e]; exact q
theorem w_neI {i j : Int} (q : Q (.bl (!decide (i = j))) H) : rNe (.int i) (.int j) H Q := by
  refine ⟨rfl, ?_⟩
  have e : decide (V.int i = V.int j) = decide (i = j) := by by_cases h : i = j <;> simp [h]
  rw [e]; exact q
theorem w_eqS {i j : Str} (q : Q (.bl (decide (i = j))) H) : rEq (.str i) (.str j) H Q := by
  refine ⟨rfl, ?_⟩
  have e : decide (V.str i = V.str j) = decide (i = j) := by by_cases h : i = j <;> simp [h]
  rw [e]; exact q
theorem w_neS {i j : Str} (q : Q (.bl (!decide (i = j))) H) : rNe (.str i) (.str j) H Q := by
  refine ⟨rfl, ?_⟩
  have e : decide (V.str i = V.str j) = decide (i = j) := by by_cases h : i = j <;> simp [h]
  rw [e]; exact q
theorem w_uI {f : Int → V} {i : Int} (q : Q (f i) H) : rU f (.int i) H Q := ⟨i, rfl, q⟩
theorem w_tt {A B : Prop} (h : A) : if true = true then A else B := by rw [if_pos rfl]; exact h
theorem w_ff {A B : Prop} (h : B) : if false = true then A else B := by rw [if_neg Bool.false_ne_true]; exact h
theorem w_isi {x c : V} {t u : Value} {b : Bool} (k : ClsV c u) (ty : TyX K H x t) (e : PySem.W.kitOne K t u = some b) (q : Q (.bl b) H) : rIsi K [x, c] H Q := ⟨x, c, t, u, b, rfl, k, ty, e, q⟩
theorem w_lenT {a : Addr} {xs : List V} (h : SqT K H a xs) (q : Q (.int xs.length) H) : ∃ x n, [V.ref a] = [x] ∧ LenV K x H n ∧ Q (.int n) H := ⟨_, _, rfl, .inr ⟨xs, h, rfl⟩, q⟩
theorem w_lenL {a : Addr} {xs : List V} (h : SqL K H a xs) (q : Q (.int xs.length) H) : ∃ x n, [V.ref a] = [x] ∧ LenV K x H n ∧ Q (.int n) H := ⟨_, _, rfl, .inl ⟨xs, h, rfl⟩, q⟩
theorem w_lenS {z : Str} (h : z.length ≤ sizeLine) (q : Q (.int z.length) H) : ∃ x n, [V.str z] = [x] ∧ LenV K x H n ∧ Q (.int n) H := ⟨_, _, rfl, ⟨h, rfl⟩, q⟩
theorem ty_int {i : Int} : TyX K H (.int i) (.type "int") := .base (.int i)
theorem ty_str {i : Str} : TyX K H (.str i) (.type "str") := .base (.str i)
theorem w_tB {k : Bool → Hp → Prop} (q : ta σ H fun x H1 => ∃ c, x = .bl c ∧ k c H1) : tB ta σ H k := q
theorem w_methR {C : Addr} {m : Str} {sp : Sp} {ts : TA} (q : ta σ H fun x H1 => ∃ a dx fs, x = .ref a ∧ H1 a = some (.ins C dx fs) ∧ fs.lookup m = none ∧ ts σ H1 fun vs H2 => sp (x :: vs) H2 Q E0) : tMethR C m sp E0 ta ts σ H Q := q
theorem w_propR {C : Addr} {sp : Sp} (q : ta σ H fun x H1 => ∃ a dx fs, x = .ref a ∧ H1 a = some (.ins C dx fs) ∧ sp [.ref a] H1 Q E0) : tPropR C sp ta σ H Q := q
theorem w_propA {Ok : Addr → Prop} {sp : Sp} (q : ta σ H fun x H1 => ∃ a C dx fs, x = .ref a ∧ Ok C ∧ H1 a = some (.ins C dx fs) ∧ sp [.ref a] H1 Q E0) : tPropA Ok sp ta σ H Q := q
theorem w_methA {Ok : Addr → Prop} {m : Str} {sp : Sp} {ts : TA} (q : ta σ H fun x H1 => ∃ a C dx fs, x = .ref a ∧ Ok C ∧ H1 a = some (.ins C dx fs) ∧ fs.lookup m = none ∧ ts σ H1 fun vs H2 => sp (x :: vs) H2 Q E0) : tMethA Ok m sp ta ts σ H Q := q
theorem w_subA {Ok : Addr → Prop} {sp : Sp} (q : ta σ H fun x H1 => tb σ H1 fun y H2 => ∃ a C dx fs, x = .ref a ∧ Ok C ∧ H2 a = some (.ins C dx fs) ∧ sp [x, y] H2 Q E0) : tSubA Ok sp ta tb σ H Q := q
theorem w_makeS {C : Addr} {sp : Sp} {ts : TA} (q : ts σ H fun vs H1 => ∀ x dx H2, H1 x = none → H1 dx = none → dx ≠ x → Same H1 H2 → H2 x = some (.ins C dx []) → sp (V.ref x :: vs) H2 (fun v H3 => v = .non ∧ Q (.ref x) H3) E0) : tMakeS C sp ts σ H Q := q
theorem w_fldS {f : Str} (q : tb σ H fun y H1 => ta σ H1 fun x H2 => ∃ a C dx fs, x = .ref a ∧ H2 a = some (.ins C dx fs) ∧ Cls K C ∧ NoAttr K C f ∧ fs.length < 1000 ∧
  ∀ H3, Chg a (.ins C dx fs) H2 H3 → H3 a = some (.ins C dx (putF f y fs)) → D.nx σ H3) : sFldS K ta tb f D σ H := q
theorem w_chain {r r' : R2} (q : ta σ H fun x H1 => tb σ H1 fun y H2 => r x y H2 fun z H3 => ∃ k, z = .bl k ∧ (if k = true then tc σ H3 fun w' H4 => r' y w' H4 Q else Q (.bl false) H3)) : tChain r r' ta tb tc σ H Q := q
theorem w_tBt {c : Bool} {k : Bool → Hp → Prop} (q : k c H) : ∃ d, V.bl c = .bl d ∧ k d H := ⟨c, rfl, q⟩
theorem w_orV (q : ta σ H fun x H1 => ∃ c, x = .bl c ∧ if c = true then Q (.bl true) H1 else tb σ H1 Q) : tOrV ta tb σ H Q := q
theorem w_next (q : D.nx σ H) : tNext D σ H := q
theorem w_notV (q : ta σ H fun x H1 => ∃ c, x = .bl c ∧ Q (.bl (!c)) H1) : tNotV ta σ H Q := q
theorem w_lcL {tl : TE} {g : TG} {tt : TT} {te : TE} {vs : List Nat} (q : tl σ H fun x H1 => ∃ a xs, x = .ref a ∧ SqL K H1 a xs ∧ LcBody g tt te vs σ H1 xs.length (fun i x => xs[i]? = some x) Q) : tLcL K tl g tt te vs σ H Q := q
theorem w_lcT {tl : TE} {g : TG} {tt : TT} {te : TE} {vs : List Nat} (q : tl σ H fun x H1 => ∃ a xs, x = .ref a ∧ SqT K H1 a xs ∧ LcBody g tt te vs σ H1 xs.length (fun i x => xs[i]? = some x) Q) : tLcT K tl g tt te vs σ H Q := q
theorem w_lcR1 {ts : TA} {g : TG} {tt : TT} {te : TE} {vs : List Nat} (q : ts σ H fun us H1 => ∃ n : Nat, us = [.int n] ∧ LcBody g tt te vs σ H1 n (fun i x => x = .int i) Q) : tLcR1 ts g tt te vs σ H Q := q
theorem w_lcR2 {ts : TA} {g : TG} {tt : TT} {te : TE} {vs : List Nat} (q : ts σ H fun us H1 => ∃ (lo : Int) (n : Nat), us = [.int lo, .int (lo + n)] ∧ (-(2 ^ 61) ≤ lo ∧ lo < 2 ^ 61) ∧ LcBody g tt te vs σ H1 n (fun i x => x = .int (lo + i)) Q) : tLcR2 ts g tt te vs σ H Q := q
theorem w_turn {g : TG} {tt : TT} {te : TE} {vs : List Nat} {H1 : Hp} {P : Nat → List V → Hp → Prop} {DD : Addr} {i : Nat} {x : V} {acc : List V}
  (q : g x (wipe σ vs) H fun σ2 H2 => wipe σ2 vs = wipe σ vs ∧ tt σ2 H2 fun b H3 => if b = true then te σ2 H3 fun y H4 => H4 DD = some (.lst acc) ∧ Same H1 H4 ∧ ∀ H5, Chg DD (.lst acc) H4 H5 → Same H1 H5 → P (i + 1) (acc ++ [y]) H5
    else H3 DD = some (.lst acc) ∧ Same H1 H3 ∧ P (i + 1) acc H3) : LcTurn g tt te vs σ H1 P DD i x acc H := q
theorem w_yes {te : TE} {k : Hp → Prop} {q : VK} (h : te σ H q) : tYes σ H fun b H3 => if b = true then te σ H3 q else k H3 := by
  show if true = true then te σ H q else k H
  rw [if_pos rfl]; exact h
theorem w_all {a : Addr} {bs : List Bool} (h : SqL K H a (bs.map V.bl)) (q : Q (.bl (bs.all id)) H) : rAll K [.ref a] H Q := ⟨a, bs, rfl, h, q⟩
theorem w_par {i j : Nat} {ts : TA} (q : ts σ H fun vs H1 => ∃ v w, vs = [v, w] ∧ D.nx ((σ.set i (some v)).set j (some w)) H1) : tPar i j ts D σ H := q
theorem w_drop (q : D.nx σ H) : tNext D σ H := q
theorem w_par3 {i j l : Nat} {ts : TA} (q : ts σ H fun vs H1 => ∃ v w u, vs = [v, w, u] ∧ D.nx (((σ.set i (some v)).set j (some w)).set l (some u)) H1) : tPar3 i j l ts D σ H := q
theorem w_or {tt tu : TT} {k : Bool → Hp → Prop} (q : tt σ H fun c H1 => if c = true then k true H1 else tu σ H1 k) : tOr tt tu σ H k := q
theorem w_and {tt tu : TT} {k : Bool → Hp → Prop} (q : tt σ H fun c H1 => if c = true then tu σ H1 k else k false H1) : tAnd tt tu σ H k := q
theorem w_isN (q : ta σ H fun x H1 => Q (.bl (decide (x = .non))) H1) : tIsN ta σ H Q := q
theorem w_notN (q : ta σ H fun x H1 => Q (.bl (!decide (x = .non))) H1) : tNotN ta σ H Q := q
abbrev ForW (J : It) (g : TG) (tb : TS) (D : Ends) (σ : L2.St) (H1 : Hp) : Prop := ∃ W : Nat → Nat → L2.St → Hp → Prop, (∃ m, W 0 m σ H1) ∧ ∀ i m σ H, W i m σ H →
  (J.stop i H ∧ D.nx σ H) ∨ (J.go i H ∧ ∃ N : L2.St → Hp → Prop, (∀ σ' H', N σ' H' → ∃ m', m' < m ∧ W (i + 1) m' σ' H') ∧ ∀ x H', J.yld i H x H' → g x σ H' fun σ2 H2 => tb { D with nx := N, ct := N, bk := D.nx } σ2 H2)
theorem w_forL {tl : TE} {g : TG} (q : tl σ H fun x H1 => ∃ a, x = .ref a ∧ (∃ xs, SqL K H1 a xs) ∧ ForW (Itl K a) g t D σ H1) : tFor (iList K tl) g t D σ H := q
theorem w_forR1 {ts : TA} {g : TG} (q : ts σ H fun vs H1 => ∃ j : Int, vs = [.int j] ∧ -(2 ^ 62) ≤ j ∧ j < 2 ^ 62 ∧ ForW (Itr 0 j.toNat) g t D σ H1) : tFor (iRng1 ts) g t D σ H := q
theorem w_m1 {r : V → List V → Hp → VK → Prop} (q : ta σ H fun x H1 => (∃ a, x = .str a) ∧ tb σ H1 fun y H2 => r x [y] H2 Q) : tM1 r ta tb σ H Q := q
theorem w_lcS {tl : TE} {g : TG} {tt : TT} {te : TE} {vs : List Nat} (q : tl σ H fun x H1 => ∃ L : List Nat, x = .str ⟨L.toArray⟩ ∧ LcBody g tt te vs σ H1 L.length (fun i x => ∃ c, L[i]? = some c ∧ x = .str ⟨#[c]⟩) Q) : tLcS tl g tt te vs σ H Q := q
theorem w_forE {ts : TA} {g : TG} (q : ts σ H fun vs H1 => ∃ a xs, vs = [.ref a] ∧ SqL K H1 a xs ∧ ForW (Ite K a) g t D σ H1) : tFor (iEnum K ts) g t D σ H := q
theorem w_gnil {q : L2.St → Hp → Prop} (z : q σ H) : gNil [] σ H q := ⟨rfl, z⟩
end
end Cp
set_option Elab.async false
set_option linter.all false
set_option maxRecDepth 100000
set_option maxHeartbeats 2000000
/-! F1: places. -/
namespace Cp
open PySem PySem.Spec PyProof.Rows L2
local macro_rules | `(tactic| tm_at "fact") => `(tactic| first
  | assumption
  | (apply Same.up; · assumption
     tm_at "fact")
  | (apply Same.upS; · assumption
     tm_at "fact")
  | (apply Same.upL; · assumption
     tm_at "fact")
  | (apply sq_of; tm_at "fact")
  | (apply sl_of; tm_at "fact")
  | (apply Chg.up; · assumption
     · tm_at "fact"
     · exact fun z => nomatch z)
  | (apply Chg.upS; · assumption
     · tm_at "fact"
     · exact fun _ z => nomatch z
     · exact fun _ _ z => nomatch z))
local macro_rules | `(tactic| tm_at "same") => `(tactic| first
  | assumption
  | exact Same.refl _
  | (refine Same.trans ?_ ?_; rotate_left; · assumption
     tm_at "same"))
local macro_rules | `(tactic| tm_at "sx1") => `(tactic| with_reducible first
  | refine w_var rfl ?_
  | refine w_c ?_
  | refine w_op ?_
  | refine w_seq ?_
  | refine w_asg ?_
  | refine w_gname ?_
  | refine w_ret ?_
  | refine w_nil ?_
  | refine w_cons ?_
  | refine w_tup ?_
  | refine w_lst ?_
  | refine w_cb ?_
  | refine w_callR ?_
  | refine w_i0 ?_
  | refine w_gcons ?_
  | refine w_gnil ?_
  | refine w_test ?_
  | refine w_not ?_
  | refine w_ifs ?_
  | refine w_if ?_
  | refine w_expr ?_
  | refine w_eqI ?_
  | refine w_neI ?_
  | refine w_eqS ?_
  | refine w_neS ?_
  | refine w_or ?_
  | refine w_and ?_
  | refine w_par3 ?_
  | refine w_andV ?_
  | refine w_notV ?_
  | refine w_lcS ?_
  | refine w_forE ?_
  | refine w_m1 ?_
  | refine w_forL ?_
  | refine w_forR1 ?_
  | refine w_isN ?_
  | refine w_notN ?_
  | refine w_fld ?_
  | refine w_methR ?_
  | refine w_propR ?_
  | refine w_propA ?_
  | refine w_methA ?_
  | refine w_subA ?_
  | refine w_makeS ?_
  | refine w_fldS ?_
  | refine w_chain ?_
  | refine w_orV ?_
  | refine w_next ?_
  | refine w_tB ?_
  | refine w_lcL ?_
  | refine w_lcT ?_
  | refine w_lcR1 ?_
  | refine w_lcR2 ?_
  | refine w_turn ?_
  | refine w_yes ?_
  | refine w_par ?_
  | refine w_uI ?_
  | refine w_un ?_
  | refine w_one ?_)
local macro_rules | `(tactic| tm_at "at") => `(tactic| first | exact rfl | exact atI_nat rfl)
local macro_rules | `(tactic| tm_at "ix") => `(tactic| first
  | (with_reducible apply w_ixT; · tm_at "fact"
     · tm_at "at")
  | (with_reducible apply w_ixL; · tm_at "fact"
     · tm_at "at")
  | (with_reducible apply w_gtup; · tm_at "fact"
     · exact rfl))
local macro_rules | `(tactic| tm_at "sx") => `(tactic| repeat (first | tm_at "sx1" | tm_at "ix"))
section
variable {P : Program} {w : World} {K : PySem.W.Frag} {mg : Str → Option Value} {base : Heap}
def sp_plus (K : PySem.W.Frag) : Sp := fun vs H Q _ => ∃ (a b : Addr) (x y u v : Int), vs = [.ref a, .ref b] ∧ SqT K H a [.int x, .int y] ∧ SqT K H b [.int u, .int v] ∧ ∀ p H', Same H H' → H' p = some (.tup [.int (x + u), .int (y + v)]) → Q (.ref p) H'
theorem ok_plus (T : Tx K mg) : FnR P w K mg base CX0 1 (He.ga K "plus") (sp_plus K) := by
  refine fnr_of T.f_plus sc_plus (fun _ _ _ _ _ _ us hl => match us, hl with | [_, _], _ => rfl) (fun vs H Q E h => by obtain ⟨_, _, _, _, _, _, rfl, _⟩ := h; rfl) (fun cdv A outer s H vs Q E hr h => ?_)
  have nd := sc_plus.nd
  refine ⟨_, (pss_one (ps_ret (pe_tupS (pa_cons (pe_op op_add (pe_ix ix_tup (pv 0) pe_int (fun _ _ => rfl)) (pe_ix ix_tup (pv 1) pe_int (fun _ _ => rfl))) (pa_cons (pe_op op_add (pe_ix ix_tup (pv 0) pe_int (fun _ _ => rfl)) (pe_ix ix_tup (pv 1) pe_int (fun _ _ => rfl))) pa_nil))))), ?_⟩
  try dsimp only [cxOf]
  obtain ⟨a, b, x, y, u, v, rfl, ha, hb, q⟩ := h
  tm_at "sx"
  exact ⟨by show 2 ≤ sizeLine; decide, fun p H2 np s e => q p H2 s e⟩
def sp_minus (K : PySem.W.Frag) : Sp := fun vs H Q _ => ∃ (a b : Addr) (x y u v : Int), vs = [.ref a, .ref b] ∧ SqT K H a [.int x, .int y] ∧ SqT K H b [.int u, .int v] ∧ ∀ p H', Same H H' → H' p = some (.tup [.int (x - u), .int (y - v)]) → Q (.ref p) H'
theorem ok_minus (T : Tx K mg) : FnR P w K mg base CX0 1 (He.ga K "minus") (sp_minus K) := by
  refine fnr_of T.f_minus sc_minus (fun _ _ _ _ _ _ us hl => match us, hl with | [_, _], _ => rfl) (fun vs H Q E h => by obtain ⟨_, _, _, _, _, _, rfl, _⟩ := h; rfl) (fun cdv A outer s H vs Q E hr h => ?_)
  have nd := sc_minus.nd
  refine ⟨_, (pss_one (ps_ret (pe_tupS (pa_cons (pe_op op_sub (pe_ix ix_tup (pv 0) pe_int (fun _ _ => rfl)) (pe_ix ix_tup (pv 1) pe_int (fun _ _ => rfl))) (pa_cons (pe_op op_sub (pe_ix ix_tup (pv 0) pe_int (fun _ _ => rfl)) (pe_ix ix_tup (pv 1) pe_int (fun _ _ => rfl))) pa_nil))))), ?_⟩
  try dsimp only [cxOf]
  obtain ⟨a, b, x, y, u, v, rfl, ha, hb, q⟩ := h
  tm_at "sx"
  exact ⟨by show 2 ≤ sizeLine; decide, fun p H2 np s e => q p H2 s e⟩
def sp_is_integer (K : PySem.W.Frag) : Sp := fun vs H Q _ => ∃ i : Int, vs = [.int i] ∧ Q (.bl true) H
theorem ok_is_integer (T : Tx K mg) : FnR P w K mg base CX0 1 (He.ga K "is_integer") (sp_is_integer K) := by
  refine fnr_of T.f_is_integer sc_is_integer (fun _ _ _ _ _ _ us hl => match us, hl with | [_], _ => rfl) (fun vs H Q E h => by obtain ⟨_, rfl, _⟩ := h; rfl) (fun cdv A outer s H vs Q E hr h => ?_)
  have nd := sc_is_integer.nd
  refine ⟨_, (pss_one (ps_ret (pe_and (pe_callB call_isi rfl T.b_isinstance bo_isinstance (pa_cons (pv 0) (pa_cons (pe_bltn (v := .ty "int") rfl T.b_int bo_int rfl) pa_nil))) (pe_one (pe_not (pe_callB call_isi rfl T.b_isinstance bo_isinstance (pa_cons (pv 0) (pa_cons (pe_bltn (v := .ty "bool") rfl T.b_bool bo_bool rfl) pa_nil)))))))), ?_⟩
  try dsimp only [cxOf]
  obtain ⟨i, rfl, q⟩ := h
  tm_at "sx"
  refine w_isi (b := true) (.ty _) ty_int (kit_ty (by decide +kernel)) ?_
  refine ⟨_, rfl, w_tt ?_⟩
  tm_at "sx"
  refine w_isi (b := false) (.ty "bool") ty_int (kit_ty (by decide +kernel)) ?_
  exact ⟨_, rfl, q⟩
def sp_is_place (K : PySem.W.Frag) : Sp := fun vs H Q _ => ∃ (a : Addr) (x y : Int), vs = [.ref a] ∧ H a = some (.tup [.int x, .int y]) ∧ ∀ H', Same H H' → Q (.bl true) H'
theorem ok_is_place (T : Tx K mg) : FnR P w K mg base CX0 2 (He.ga K "is_place") (sp_is_place K) := by
  refine fnr_of T.f_is_place sc_is_place (fun _ _ _ _ _ _ us hl => match us, hl with | [_], _ => rfl) (fun vs H Q E h => by obtain ⟨_, _, _, rfl, _⟩ := h; rfl) (fun cdv A outer s H vs Q E hr h => ?_)
  have nd := sc_is_place.nd
  refine ⟨_, (pss_one (ps_ret (pe_and (pe_callB call_isi rfl T.b_isinstance bo_isinstance (pa_cons (pv 0) (pa_cons (pe_bltn (v := .ty "tuple") rfl T.b_tuple bo_tuple rfl) pa_nil))) (pe_and (pe_cmpR op_eq (pe_callB call_len rfl T.b_len bo_len (pa_cons (pv 0) pa_nil)) pe_int (nomark _)) (pe_one (pe_callB (cr_all rfl) rfl T.b_all bo_all (pa_cons (pe_lcT (own := [("number", 1)]) (g := (gName 1)) rfl nd (pv 0) (blkOk_by (N := Nis_place) (sc := defScope sis_place) (by decide +kernel)) (fun _ _ _ _ _ => (pg_name (i := 1) nd rfl (Or.inl rfl))) (fun _ _ _ _ _ => pts_nil) (fun _ _ _ _ _ => (pe_callR (ok_is_integer T) (hr.mono (by decide)) rfl T.g_is_integer T.k_is_integer (pa_cons (pv 1) pa_nil)))) pa_nil))))))), ?_⟩
  try dsimp only [cxOf]
  obtain ⟨a, x, y, rfl, ha, q⟩ := h
  tm_at "sx"
  refine w_isi (b := true) (.ty _) (.base (.tup ha)) (kit_ty (by decide +kernel)) ?_
  refine ⟨_, rfl, w_tt ?_⟩
  tm_at "sx"
  refine ⟨_, _, rfl, .inr ⟨_, sq_of ha, rfl⟩, ?_⟩
  tm_at "sx"
  refine ⟨true, rfl, w_tt ?_⟩
  tm_at "sx"
  refine ⟨_, _, rfl, sq_of ha, by show 2 < sizeLine; decide, fun i acc H => acc = List.replicate i (V.bl true), fun _ _ => rfl, fun D i v acc H hi hx hD s e p => ?_, fun D acc H hD s e p => ?_⟩
  · subst p
    tm_at "sx"
    refine ⟨rfl, ?_⟩
    tm_at "sx"
    have hv : ∃ z : Int, v = .int z := by
      match i, hi, hx with
      | 0, _, hx => exact ⟨x, (Option.some.inj hx).symm⟩
      | 1, _, hx => exact ⟨y, (Option.some.inj hx).symm⟩
    obtain ⟨z, rfl⟩ := hv
    exact ⟨z, rfl, e, s, fun H5 c s5 => by rw [List.replicate_succ']⟩
  · subst p
    refine w_all (bs := [true, true]) (sl_of e) ?_
    exact q _ s
def sp_check_place (K : PySem.W.Frag) : Sp := fun vs H Q _ => ∃ (a : Addr) (x y : Int), vs = [.ref a] ∧ H a = some (.tup [.int x, .int y]) ∧ ∀ H', Same H H' → Q .non H'
theorem ok_check_place (T : Tx K mg) : FnR P w K mg base CX0 3 (He.ga K "check_place") (sp_check_place K) := by
  refine fnr_of T.f_check_place sc_check_place (fun _ _ _ _ _ _ us hl => match us, hl with | [_], _ => rfl) (fun vs H Q E h => by obtain ⟨_, _, _, rfl, _⟩ := h; rfl) (fun cdv A outer s H vs Q E hr h => ?_)
  have nd := sc_check_place.nd
  refine ⟨_, (pss_one (ps_if (pt_not (pt_val (pe_callR (ok_is_place T) (hr.mono (by decide)) rfl T.g_is_place T.k_is_place (pa_cons (pv 0) pa_nil)))) (pss_one ps_never) pss_nil)), ?_⟩
  try dsimp only [cxOf]
  obtain ⟨a, x, y, rfl, ha, q⟩ := h
  tm_at "sx"
  refine ⟨a, x, y, rfl, ha, fun H' s => ?_⟩
  refine ⟨true, rfl, ?_⟩
  exact w_ff (q _ s)
end
end Cp
set_option Elab.async false
set_option linter.all false
set_option maxRecDepth 100000
set_option maxHeartbeats 2000000
/-! F2: gcd, divisors. -/
namespace Cp
open PySem PySem.Spec PyProof.Rows L2
local macro_rules | `(tactic| tm_at "fact") => `(tactic| first
  | assumption
  | (apply Same.up; · assumption
     tm_at "fact")
  | (apply Same.upS; · assumption
     tm_at "fact")
  | (apply Same.upL; · assumption
     tm_at "fact")
  | (apply sq_of; tm_at "fact")
  | (apply sl_of; tm_at "fact")
  | (apply Chg.up; · assumption
     · tm_at "fact"
     · exact fun z => nomatch z)
  | (apply Chg.upS; · assumption
     · tm_at "fact"
     · exact fun _ z => nomatch z
     · exact fun _ _ z => nomatch z))
local macro_rules | `(tactic| tm_at "same") => `(tactic| first
  | assumption
  | exact Same.refl _
  | (refine Same.trans ?_ ?_; rotate_left; · assumption
     tm_at "same"))
local macro_rules | `(tactic| tm_at "sx1") => `(tactic| with_reducible first
  | refine w_var rfl ?_
  | refine w_c ?_
  | refine w_op ?_
  | refine w_seq ?_
  | refine w_asg ?_
  | refine w_gname ?_
  | refine w_ret ?_
  | refine w_nil ?_
  | refine w_cons ?_
  | refine w_tup ?_
  | refine w_lst ?_
  | refine w_cb ?_
  | refine w_callR ?_
  | refine w_i0 ?_
  | refine w_gcons ?_
  | refine w_gnil ?_
  | refine w_test ?_
  | refine w_not ?_
  | refine w_ifs ?_
  | refine w_if ?_
  | refine w_expr ?_
  | refine w_eqI ?_
  | refine w_neI ?_
  | refine w_eqS ?_
  | refine w_neS ?_
  | refine w_or ?_
  | refine w_and ?_
  | refine w_par3 ?_
  | refine w_andV ?_
  | refine w_notV ?_
  | refine w_lcS ?_
  | refine w_forE ?_
  | refine w_m1 ?_
  | refine w_forL ?_
  | refine w_forR1 ?_
  | refine w_isN ?_
  | refine w_notN ?_
  | refine w_fld ?_
  | refine w_methR ?_
  | refine w_propR ?_
  | refine w_propA ?_
  | refine w_methA ?_
  | refine w_subA ?_
  | refine w_makeS ?_
  | refine w_fldS ?_
  | refine w_chain ?_
  | refine w_orV ?_
  | refine w_next ?_
  | refine w_tB ?_
  | refine w_lcL ?_
  | refine w_lcT ?_
  | refine w_lcR1 ?_
  | refine w_lcR2 ?_
  | refine w_turn ?_
  | refine w_yes ?_
  | refine w_par ?_
  | refine w_uI ?_
  | refine w_un ?_
  | refine w_one ?_)
local macro_rules | `(tactic| tm_at "at") => `(tactic| first | exact rfl | exact atI_nat rfl)
local macro_rules | `(tactic| tm_at "ix") => `(tactic| first
  | (with_reducible apply w_ixT; · tm_at "fact"
     · tm_at "at")
  | (with_reducible apply w_ixL; · tm_at "fact"
     · tm_at "at")
  | (with_reducible apply w_gtup; · tm_at "fact"
     · exact rfl))
local macro_rules | `(tactic| tm_at "sx") => `(tactic| repeat (first | tm_at "sx1" | tm_at "ix"))
section
variable {P : Program} {w : World} {K : PySem.W.Frag} {mg : Str → Option Value} {base : Heap}
theorem abs_nat (i : Int) : (if i < 0 then -i else i) = (i.natAbs : Int) := by split <;> omega
def sp_greatest_divisor (K : PySem.W.Frag) : Sp := fun vs H Q _ => ∃ a b : Int, vs = [.int a, .int b] ∧ Q (.int (Int.gcd a b : Nat)) H
theorem ok_greatest_divisor (T : Tx K mg) : FnR P w K mg base CX0 1 (He.ga K "greatest_divisor") (sp_greatest_divisor K) := by
  refine fnr_of T.f_greatest_divisor sc_greatest_divisor (fun _ _ _ _ _ _ us hl => match us, hl with | [_, _], _ => rfl) (fun vs H Q E h => by obtain ⟨_, _, rfl, _⟩ := h; rfl) (fun cdv A outer s H vs Q E hr h => ?_)
  have nd := sc_greatest_divisor.nd
  refine ⟨_, (pss_cons (ps_par (i := 0) (j := 1) rfl nd rfl rfl (by decide) rfl rfl (pa_cons (pe_callB call_abs rfl T.b_abs bo_abs (pa_cons (pv 0) pa_nil)) (pa_cons (pe_callB call_abs rfl T.b_abs bo_abs (pa_cons (pv 1) pa_nil)) pa_nil)) rfl)
    (pss_cons (ps_while PassesOwn.never (pt_cmpR op_gt (pv 1) pe_int (nomark _)) (pss_one (ps_par (i := 0) (j := 1) rfl nd rfl rfl (by decide) rfl rfl (pa_cons (pv 1) (pa_cons (pe_op op_mod (pv 0) (pv 1)) pa_nil)) rfl)))
    (pss_one (ps_ret (pv 0))))), ?_⟩
  try dsimp only [cxOf]
  obtain ⟨a, b, rfl, q⟩ := h
  tm_at "sx"
  refine ⟨a, rfl, ?_⟩
  tm_at "sx"
  refine ⟨b, rfl, ?_⟩
  tm_at "sx"
  refine ⟨_, _, rfl, ?_⟩
  refine w_seq ⟨fun m σ H' => ∃ x y : Nat, σ = [some (.int x), some (.int y)] ∧ y = m ∧ Nat.gcd x y = Int.gcd a b ∧ H' = H, ⟨b.natAbs, a.natAbs, b.natAbs, ?_, rfl, rfl, rfl⟩, fun m σ H' hW => ?_⟩
  · rw [abs_nat, abs_nat]; rfl
  · obtain ⟨x, y, rfl, rfl, hg, rfl⟩ := hW
    tm_at "sx"
    refine ⟨_, rfl, ?_⟩
    by_cases hy : 0 < (y : Int)
    · rw [decide_eq_true hy]
      refine w_tt ⟨fun σ H1 => σ = [some (.int y), some (.int (x % y : Nat))] ∧ H1 = H', fun σ H1 ⟨e1, e2⟩ => ⟨x % y, Nat.mod_lt _ (by omega), y, x % y, e1, rfl, ?_, e2⟩, ?_⟩
      · rw [← hg, Nat.gcd_comm y, ← Nat.gcd_rec, Nat.gcd_comm]
      · tm_at "sx"
        refine w_iC (by omega) ?_
        tm_at "sx"
        refine ⟨_, _, rfl, ?_⟩
        exact ⟨by rw [Int.natCast_emod]; rfl, rfl⟩
    · rw [decide_eq_false hy]
      have hy0 : y = 0 := by omega
      subst hy0
      refine w_ff ?_
      tm_at "sx"
      rw [Nat.gcd_zero_right] at hg
      rw [hg]; exact q
def divs (n : Nat) : List Int := ((List.range' 1 n).filter fun d => n % d == 0).map fun (d : Nat) => (d : Int)
theorem divs_step (n i : Nat) : ((List.range' 1 (i + 1)).filter fun d => n % d == 0) = ((List.range' 1 i).filter fun d => n % d == 0) ++ (if n % (1 + i) == 0 then [1 + i] else []) := by
  rw [List.range'_1_concat, List.filter_append]
  congr 1
  by_cases h : (n % (1 + i) == 0) = true <;> simp [h]
def sp_divisors (K : PySem.W.Frag) : Sp := fun vs H Q _ => ∃ n : Nat, vs = [.int n] ∧ n ≤ 100000 ∧ ∀ p H', Same H H' → H' p = some (.lst ((divs n).map V.int)) → Q (.ref p) H'
theorem ok_divisors (T : Tx K mg) : FnR P w K mg base CX0 1 (He.ga K "divisors") (sp_divisors K) := by
  refine fnr_of T.f_divisors sc_divisors (fun _ _ _ _ _ _ us hl => match us, hl with | [_], _ => rfl) (fun vs H Q E h => by obtain ⟨_, rfl, _⟩ := h; rfl) (fun cdv A outer s H vs Q E hr h => ?_)
  have nd := sc_divisors.nd
  refine ⟨_, (pss_one (ps_ret (pe_lcR2 (own := [("divisor", 1)]) (g := (gName 1)) rfl nd rfl T.b_range (pa_cons pe_int (pa_cons (pe_op op_add (pv 0) pe_int) pa_nil)) (blkOk_by (N := Ndivisors) (sc := defScope sdivisors) (by decide +kernel)) (fun _ _ _ _ _ => (pg_name (i := 1) nd rfl (Or.inl rfl))) (fun _ _ _ _ _ => (pts_one (pt_cmpR op_eq (pe_op op_mod (pv 0) (pv 1)) pe_int (nomark _)))) (fun _ _ _ _ _ => (pv 1))))), ?_⟩
  try dsimp only [cxOf]
  obtain ⟨n, rfl, hn, q⟩ := h
  tm_at "sx"
  have hsl := sizeLine_eq
  refine ⟨1, n, by rw [Int.add_comm], by decide, by omega, fun i acc H' => acc = (((List.range' 1 i).filter fun d => n % d == 0).map fun (d : Nat) => V.int (d : Int)), fun _ _ => rfl, fun D i v acc H' hi hx hD s e p => ?_, fun D acc H' hD s e p => ?_⟩
  · subst p hx
    tm_at "sx"
    refine ⟨rfl, ?_⟩
    tm_at "sx"
    refine w_iC (by omega) ?_
    tm_at "sx"
    refine ⟨_, rfl, ?_⟩
    have hm : ((n : Int) % (1 + (i : Int)) = 0) = (n % (1 + i) = 0) := by
      have : ((n : Int) % (1 + (i : Int))) = ((n % (1 + i) : Nat) : Int) := by rw [Int.natCast_emod, Int.natCast_add]; rfl
      rw [this]; apply propext; omega
    by_cases h0 : n % (1 + i) = 0
    · rw [decide_eq_true (hm ▸ h0)]
      refine w_tt ?_
      tm_at "sx"
      refine ⟨e, s, fun H5 c s5 => ?_⟩
      rw [divs_step, if_pos (by simpa using h0), List.map_append]
      show _ = _ ++ [V.int ((1 + i : Nat) : Int)]
      rw [Int.natCast_add]; rfl
    · rw [decide_eq_false (hm ▸ h0)]
      refine w_ff ⟨e, s, ?_⟩
      rw [divs_step, if_neg (by simpa using h0), List.append_nil]
  · subst p
    refine q D H' s ?_
    rw [e]
    unfold divs
    rw [List.map_map]; rfl
end
end Cp
set_option Elab.async false
set_option linter.all false
set_option maxRecDepth 100000
set_option maxHeartbeats 2000000
/-! F3: nets. -/
namespace Cp
open PySem PySem.Spec PyProof.Rows L2
local macro_rules | `(tactic| tm_at "fact") => `(tactic| first
  | assumption
  | (apply Same.up; · assumption
     tm_at "fact")
  | (apply Same.upS; · assumption
     tm_at "fact")
  | (apply Same.upL; · assumption
     tm_at "fact")
  | (apply sq_of; tm_at "fact")
  | (apply sl_of; tm_at "fact")
  | (apply Chg.up; · assumption
     · tm_at "fact"
     · exact fun z => nomatch z)
  | (apply Chg.upS; · assumption
     · tm_at "fact"
     · exact fun _ z => nomatch z
     · exact fun _ _ z => nomatch z))
local macro_rules | `(tactic| tm_at "same") => `(tactic| first
  | assumption
  | exact Same.refl _
  | (refine Same.trans ?_ ?_; rotate_left; · assumption
     tm_at "same"))
local macro_rules | `(tactic| tm_at "sx1") => `(tactic| with_reducible first
  | refine w_var rfl ?_
  | refine w_c ?_
  | refine w_op ?_
  | refine w_seq ?_
  | refine w_asg ?_
  | refine w_gname ?_
  | refine w_ret ?_
  | refine w_nil ?_
  | refine w_cons ?_
  | refine w_tup ?_
  | refine w_lst ?_
  | refine w_cb ?_
  | refine w_callR ?_
  | refine w_i0 ?_
  | refine w_gcons ?_
  | refine w_gnil ?_
  | refine w_test ?_
  | refine w_not ?_
  | refine w_ifs ?_
  | refine w_if ?_
  | refine w_expr ?_
  | refine w_eqI ?_
  | refine w_neI ?_
  | refine w_eqS ?_
  | refine w_neS ?_
  | refine w_or ?_
  | refine w_and ?_
  | refine w_par3 ?_
  | refine w_andV ?_
  | refine w_notV ?_
  | refine w_lcS ?_
  | refine w_forE ?_
  | refine w_m1 ?_
  | refine w_forL ?_
  | refine w_forR1 ?_
  | refine w_isN ?_
  | refine w_notN ?_
  | refine w_fld ?_
  | refine w_methR ?_
  | refine w_propR ?_
  | refine w_propA ?_
  | refine w_methA ?_
  | refine w_subA ?_
  | refine w_makeS ?_
  | refine w_fldS ?_
  | refine w_chain ?_
  | refine w_orV ?_
  | refine w_next ?_
  | refine w_tB ?_
  | refine w_lcL ?_
  | refine w_lcT ?_
  | refine w_lcR1 ?_
  | refine w_lcR2 ?_
  | refine w_turn ?_
  | refine w_yes ?_
  | refine w_par ?_
  | refine w_uI ?_
  | refine w_un ?_
  | refine w_one ?_)
local macro_rules | `(tactic| tm_at "at") => `(tactic| first | exact rfl | exact atI_nat rfl)
local macro_rules | `(tactic| tm_at "ix") => `(tactic| first
  | (with_reducible apply w_ixT; · tm_at "fact"
     · tm_at "at")
  | (with_reducible apply w_ixL; · tm_at "fact"
     · tm_at "at")
  | (with_reducible apply w_gtup; · tm_at "fact"
     · exact rfl))
local macro_rules | `(tactic| tm_at "sx") => `(tactic| repeat (first | tm_at "sx1" | tm_at "ix"))
abbrev T3 : Type := Int × Int × Int
structure NOk (n : T3) : Prop where
  a1 : 1 ≤ n.1
  b0 : 0 ≤ n.2.1
  ba : n.2.1 < n.1
  c1 : 1 ≤ n.2.2
  sz : n.1 * n.2.2 ≤ 4000
theorem NOk.a2 {n : T3} (h : NOk n) : n.1 ≤ 4000 := by
  have := h.sz; have := h.c1; have := h.a1
  calc n.1 = n.1 * 1 := by omega
    _ ≤ n.1 * n.2.2 := Int.mul_le_mul_of_nonneg_left h.c1 (by omega)
    _ ≤ 4000 := h.sz
theorem NOk.c2 {n : T3} (h : NOk n) : n.2.2 ≤ 4000 := by
  have := h.sz; have := h.c1; have := h.a1
  calc n.2.2 = 1 * n.2.2 := by omega
    _ ≤ n.1 * n.2.2 := Int.mul_le_mul_of_nonneg_right h.a1 (by omega)
    _ ≤ 4000 := h.sz
/-- three numbers that make a net -/
structure NV (n : T3) : Prop where
  a1 : 1 ≤ n.1
  b0 : 0 ≤ n.2.1
  ba : n.2.1 < n.1
  c1 : 1 ≤ n.2.2
theorem NOk.nv {n : T3} (h : NOk n) : NV n := ⟨h.a1, h.b0, h.ba, h.c1⟩
/-- a net and a place within the numbers' bounds -/
structure NW (n : T3) (p : Int × Int) : Prop where
  nv : NV n
  c2 : n.2.2 < 2 ^ 30
  bp : n.2.1 < 2 ^ 60 ∨ (-(2 ^ 60) < p.2 ∧ p.2 < 2 ^ 60)
theorem NOk.nw {n : T3} (h : NOk n) (p : Int × Int) : NW n p := ⟨h.nv, by have := h.c2; omega, .inl (by have := h.ba; have := h.a2; omega)⟩
abbrev tup3 (n : T3) : HO := .tup [.int n.1, .int n.2.1, .int n.2.2]
abbrev tup2 (p : Int × Int) : HO := .tup [.int p.1, .int p.2]
/-- the place of the cell that a place falls on -/
def low (n : T3) (p : Int × Int) : Int × Int := ((p.1 - p.2 / n.2.2 * n.2.1) % n.1, p.2 - p.2 / n.2.2 * n.2.2)
/-- a Net object -/
def NetV (K : PySem.W.Frag) (H : Hp) (o : Addr) (n : T3) : Prop := ∃ dx t, H o = some (.ins (He.ga K "Net") dx [("own_numbers", .ref t)]) ∧ H t = some (tup3 n)
theorem NetV.up {K : PySem.W.Frag} {H H' : Hp} {o : Addr} {n : T3} (s : Same H H') (h : NetV K H o n) : NetV K H' o n := let ⟨dx, t, h1, h2⟩ := h; ⟨dx, t, s _ _ h1, s _ _ h2⟩
section
variable {P : Program} {w : World} {K : PySem.W.Frag} {mg : Str → Option Value} {base : Heap}
def sp_are_numbers (K : PySem.W.Frag) : Sp := fun vs H Q _ => ∃ (t : Addr) (n : T3), vs = [.ref t] ∧ H t = some (tup3 n) ∧ NV n ∧ ∀ H', Same H H' → Q (.bl true) H'
theorem ok_are_numbers (T : Tx K mg) : FnR P w K mg base CX0 2 (He.ga K "are_numbers") (sp_are_numbers K) := by
  refine fnr_of T.f_are_numbers sc_are_numbers (fun _ _ _ _ _ _ us hl => match us, hl with | [_], _ => rfl) (fun vs H Q E h => by obtain ⟨_, _, rfl, _⟩ := h; rfl) (fun cdv A outer s H vs Q E hr h => ?_)
  have nd := sc_are_numbers.nd
  refine ⟨_, (pss_cons (ps_if (pt_not (pt_val (pe_callB (cr_all rfl) rfl T.b_all bo_all (pa_cons (pe_lcT (own := [("number", 4)]) (g := (gName 4)) rfl nd (pv 0) (blkOk_by (N := Nare_numbers) (sc := defScope sare_numbers) (by decide +kernel)) (fun _ _ _ _ _ => (pg_name (i := 4) nd rfl (Or.inl rfl))) (fun _ _ _ _ _ => pts_nil) (fun _ _ _ _ _ => (pe_callR (ok_is_integer T) (hr.mono (by decide)) rfl T.g_is_integer T.k_is_integer (pa_cons (pv 4) pa_nil)))) pa_nil)))) (pss_one (ps_ret pe_bl)) pss_nil)
    (pss_cons (ps_asg (pv 0) (pg_tup rfl (pgs_cons (pg_name (i := 1) nd rfl (Or.inl rfl)) (pgs_cons (pg_name (i := 2) nd rfl (Or.inl rfl)) (pgs_cons (pg_name (i := 3) nd rfl (Or.inl rfl)) pgs_nil)))))
    (pss_one (ps_ret (pe_and (pe_cmpR op_ge (pv 3) pe_int (nomark _)) (pe_one (pe_chain op_le op_lt pe_int (pv 2) (pv 1)))))))), ?_⟩
  try dsimp only [cxOf]
  obtain ⟨t, n, rfl, ht, ok, q⟩ := h
  tm_at "sx"
  refine ⟨_, _, rfl, sq_of ht, by show 3 < sizeLine; decide, fun i acc H => acc = List.replicate i (V.bl true), fun _ _ => rfl, fun D i v acc H hi hx hD s e p => ?_, fun D acc H hD s e p => ?_⟩
  · subst p
    tm_at "sx"
    refine ⟨rfl, ?_⟩
    tm_at "sx"
    have hv : ∃ z : Int, v = .int z := by
      match i, hi, hx with
      | 0, _, hx => exact ⟨_, (Option.some.inj hx).symm⟩
      | 1, _, hx => exact ⟨_, (Option.some.inj hx).symm⟩
      | 2, _, hx => exact ⟨_, (Option.some.inj hx).symm⟩
    obtain ⟨z, rfl⟩ := hv
    exact ⟨z, rfl, e, s, fun H5 c s5 => by rw [List.replicate_succ']⟩
  · subst p
    tm_at "sx"
    refine w_all (bs := [true, true, true]) (sl_of e) ?_
    refine ⟨true, rfl, w_ff ?_⟩
    tm_at "sx"
    have h1 := ok.c1
    have h2 := ok.b0
    have h3 := ok.ba
    refine ⟨_, rfl, ?_⟩
    rw [decide_eq_true h1]
    refine w_tt ?_
    tm_at "sx"
    refine ⟨_, rfl, ?_⟩
    rw [decide_eq_true h2]
    refine w_tt ?_
    tm_at "sx"
    rw [decide_eq_true h3]
    exact q _ s
def sp_Net___init__ (K : PySem.W.Frag) : Sp := fun vs H Q _ => ∃ (o dx : Addr) (n : T3), vs = [.ref o, .int n.1, .int n.2.1, .int n.2.2] ∧ H o = some (.ins (He.ga K "Net") dx []) ∧ NV n ∧
  ∀ H', (∀ b u, b ≠ o → H b = some u → H' b = some u) → NetV K H' o n → Q .non H'
theorem ok_Net___init__ (T : Tx K mg) : FnR P w K mg base CX0 3 (He.ma K (He.ga K "Net") "__init__") (sp_Net___init__ K) := by
  refine fnr_of T.f_Net___init__ sc_Net___init__ (fun _ _ _ _ _ _ us hl => match us, hl with | [_, _, _, _], _ => rfl) (fun vs H Q E h => by obtain ⟨_, _, _, rfl, _⟩ := h; rfl) (fun cdv A outer s H vs Q E hr h => ?_)
  have nd := sc_Net___init__.nd
  refine ⟨_, (pss_cons (ps_if (pt_not (pt_val (pe_callR (ok_are_numbers T) (hr.mono (by decide)) rfl T.g_are_numbers T.k_are_numbers (pa_cons (pe_tupS (pa_cons (pv 1) (pa_cons (pv 2) (pa_cons (pv 3) pa_nil)))) pa_nil)))) (pss_one ps_never) pss_nil)
    (pss_one (ps_fldS (pv 0) (pe_tupS (pa_cons (pv 1) (pa_cons (pv 2) (pa_cons (pv 3) pa_nil)))) rfl))), ?_⟩
  try dsimp only [cxOf]
  obtain ⟨o, dx, n, rfl, ho, ok, q⟩ := h
  tm_at "sx"
  refine ⟨by show 3 ≤ sizeLine; decide, fun t H1 nt s1 e1 => ⟨t, n, rfl, e1, ok, fun H2 s2 => ⟨true, rfl, ?_⟩⟩⟩
  refine w_ff ?_
  tm_at "sx"
  refine ⟨by show 3 ≤ sizeLine; decide, fun t' H3 nt' s3 e3 => ?_⟩
  tm_at "sx"
  have hO : H3 o = some (.ins (He.ga K "Net") dx []) := by tm_at "fact"
  refine ⟨o, _, _, _, rfl, hO, T.c_Net, T.n_Net_own_numbers, by decide, fun H4 c4 e4 => ?_⟩
  refine q H4 (fun b u hb e => ?_) ⟨dx, t', e4, c4.up e3 (fun z => nomatch z)⟩
  exact c4.2 b u hb (s3 _ _ (s2 _ _ (s1 _ _ e)))
def sp_Net_numbers (K : PySem.W.Frag) : Sp := fun vs H Q _ => ∃ (o : Addr) (n : T3), vs = [.ref o] ∧ NetV K H o n ∧ ∀ t, H t = some (tup3 n) → Q (.ref t) H
theorem ok_Net_numbers (T : Tx K mg) : FnR P w K mg base CX0 1 (He5.wf K (He.ga K "Net") "property" "numbers") (sp_Net_numbers K) := by
  refine fnr_of T.f_Net_numbers sc_Net_numbers (fun _ _ _ _ _ _ us hl => match us, hl with | [_], _ => rfl) (fun vs H Q E h => by obtain ⟨_, _, rfl, _⟩ := h; rfl) (fun cdv A outer s H vs Q E hr h => ?_)
  have nd := sc_Net_numbers.nd
  refine ⟨_, (pss_one (ps_ret (pe_fld (pv 0) rfl))), ?_⟩
  try dsimp only [cxOf]
  obtain ⟨o, n, rfl, ⟨dx, t, ho, ht⟩, q⟩ := h
  tm_at "sx"
  exact ⟨_, _, _, _, _, rfl, ho, T.c_Net, T.n_Net_own_numbers, rfl, q t ht⟩
def sp_Net_size (K : PySem.W.Frag) : Sp := fun vs H Q _ => ∃ (o : Addr) (n : T3), vs = [.ref o] ∧ NetV K H o n ∧ NOk n ∧ Q (.int (n.1 * n.2.2)) H
theorem ok_Net_size (T : Tx K mg) : FnR P w K mg base CX0 1 (He5.wf K (He.ga K "Net") "property" "size") (sp_Net_size K) := by
  refine fnr_of T.f_Net_size sc_Net_size (fun _ _ _ _ _ _ us hl => match us, hl with | [_], _ => rfl) (fun vs H Q E h => by obtain ⟨_, _, rfl, _⟩ := h; rfl) (fun cdv A outer s H vs Q E hr h => ?_)
  have nd := sc_Net_size.nd
  refine ⟨_, (pss_one (ps_ret (pe_op op_mul (pe_ix ix_tup (pe_fld (pv 0) rfl) pe_int (fun _ _ => rfl)) (pe_ix ix_tup (pe_fld (pv 0) rfl) pe_int (fun _ _ => rfl))))), ?_⟩
  try dsimp only [cxOf]
  obtain ⟨o, n, rfl, ⟨dx, t, ho, ht⟩, ok, q⟩ := h
  tm_at "sx"
  refine ⟨_, _, _, _, _, rfl, ho, T.c_Net, T.n_Net_own_numbers, rfl, ?_⟩
  tm_at "sx"
  refine ⟨_, _, _, _, _, rfl, ho, T.c_Net, T.n_Net_own_numbers, rfl, ?_⟩
  tm_at "sx"
  have := ok.a1
  have := ok.a2
  exact w_iC (.inl ⟨by omega, by omega⟩) q
def sp_Net_place_in_cell (K : PySem.W.Frag) : Sp := fun vs H Q _ => ∃ (o a : Addr) (n : T3) (p : Int × Int), vs = [.ref o, .ref a] ∧ NetV K H o n ∧ NW n p ∧ H a = some (tup2 p) ∧ ∀ t H', Same H H' → H' t = some (tup2 (low n p)) → Q (.ref t) H'
theorem ok_Net_place_in_cell (T : Tx K mg) : FnR P w K mg base CX0 1 (He.ma K (He.ga K "Net") "place_in_cell") (sp_Net_place_in_cell K) := by
  refine fnr_of T.f_Net_place_in_cell sc_Net_place_in_cell (fun _ _ _ _ _ _ us hl => match us, hl with | [_, _], _ => rfl) (fun vs H Q E h => by obtain ⟨_, _, _, _, rfl, _⟩ := h; rfl) (fun cdv A outer s H vs Q E hr h => ?_)
  have nd := sc_Net_place_in_cell.nd
  refine ⟨_, (pss_cons (ps_asg (pe_fld (pv 0) rfl) (pg_tup rfl (pgs_cons (pg_name (i := 2) nd rfl (Or.inl rfl)) (pgs_cons (pg_name (i := 3) nd rfl (Or.inl rfl)) (pgs_cons (pg_name (i := 4) nd rfl (Or.inl rfl)) pgs_nil)))))
    (pss_cons (ps_set (i := 5) nd rfl (Or.inl rfl) (pe_op op_fdiv (pe_ix ix_tup (pv 1) pe_int (fun _ _ => rfl)) (pv 4)))
    (pss_one (ps_ret (pe_tupS (pa_cons (pe_op op_mod (pe_op op_sub (pe_ix ix_tup (pv 1) pe_int (fun _ _ => rfl)) (pe_op op_mul (pv 5) (pv 3))) (pv 2)) (pa_cons (pe_op op_sub (pe_ix ix_tup (pv 1) pe_int (fun _ _ => rfl)) (pe_op op_mul (pv 5) (pv 4))) pa_nil))))))), ?_⟩
  try dsimp only [cxOf]
  obtain ⟨o, a, n, p, rfl, ⟨dx, t, ho, ht⟩, ok, ha, q⟩ := h
  have h1 := ok.nv.a1
  have h3 := ok.nv.b0
  have h4 := ok.nv.ba
  have h5 := ok.nv.c1
  have h6 := ok.c2
  tm_at "sx"
  refine ⟨_, _, _, _, _, rfl, ho, T.c_Net, T.n_Net_own_numbers, rfl, ?_⟩
  tm_at "sx"
  refine w_iC ⟨by omega, by omega⟩ ?_
  tm_at "sx"
  have hd : -(2 ^ 60) < p.2 ∧ p.2 < 2 ^ 60 → -(2 ^ 64) < p.2 / n.2.2 ∧ p.2 / n.2.2 < 2 ^ 64 := fun ⟨u, v⟩ => by
    have e := Int.mul_ediv_add_emod p.2 n.2.2
    have e1 := Int.emod_nonneg p.2 (show n.2.2 ≠ 0 by omega)
    have e2 := Int.emod_lt_of_pos p.2 (show 0 < n.2.2 by omega)
    constructor
    · refine Int.lt_of_lt_of_le (show -(2 ^ 64) < -(2 ^ 60) - (1 : Int) by decide) ?_
      exact (Int.le_ediv_iff_mul_le (by omega)).mpr (by
        have : (-(2 ^ 60) - (1 : Int)) * n.2.2 ≤ (-(2 ^ 60) - (1 : Int)) * 1 := Int.mul_le_mul_of_nonpos_left (by decide) h5
        omega)
    · refine Int.lt_of_le_of_lt (b := 2 ^ 60) ?_ (by decide)
      exact Int.le_of_lt (Int.ediv_lt_of_lt_mul (by omega) (by
        have : (2 ^ 60 : Int) * 1 ≤ 2 ^ 60 * n.2.2 := Int.mul_le_mul_of_nonneg_left h5 (by decide)
        omega))
  refine w_iC (by rcases ok.bp with z | z; · exact .inr ⟨by omega, by omega⟩
                  · exact .inl (hd z)) ?_
  tm_at "sx"
  refine w_iC (by omega) ?_
  tm_at "sx"
  refine w_iC (.inr ⟨by omega, by omega⟩) ?_
  tm_at "sx"
  exact ⟨by show 2 ≤ sizeLine; decide, fun t' H2 _ s e => q t' H2 s e⟩
end
end Cp
set_option Elab.async false
set_option linter.all false
set_option maxRecDepth 100000
set_option maxHeartbeats 2000000
/-! F4: equality of data; Net's ==, in, spots, whole. -/
namespace Cp
open PySem PySem.Spec PyProof.Rows L2
local macro_rules | `(tactic| tm_at "fact") => `(tactic| first
  | assumption
  | (apply Same.up; · assumption
     tm_at "fact")
  | (apply Same.upS; · assumption
     tm_at "fact")
  | (apply Same.upL; · assumption
     tm_at "fact")
  | (apply sq_of; tm_at "fact")
  | (apply sl_of; tm_at "fact")
  | (apply Chg.up; · assumption
     · tm_at "fact"
     · exact fun z => nomatch z)
  | (apply Chg.upS; · assumption
     · tm_at "fact"
     · exact fun _ z => nomatch z
     · exact fun _ _ z => nomatch z))
local macro_rules | `(tactic| tm_at "same") => `(tactic| first
  | assumption
  | exact Same.refl _
  | (refine Same.trans ?_ ?_; rotate_left; · assumption
     tm_at "same"))
local macro_rules | `(tactic| tm_at "sx1") => `(tactic| with_reducible first
  | refine w_var rfl ?_
  | refine w_c ?_
  | refine w_op ?_
  | refine w_seq ?_
  | refine w_asg ?_
  | refine w_gname ?_
  | refine w_ret ?_
  | refine w_nil ?_
  | refine w_cons ?_
  | refine w_tup ?_
  | refine w_lst ?_
  | refine w_cb ?_
  | refine w_callR ?_
  | refine w_i0 ?_
  | refine w_gcons ?_
  | refine w_gnil ?_
  | refine w_test ?_
  | refine w_not ?_
  | refine w_ifs ?_
  | refine w_if ?_
  | refine w_expr ?_
  | refine w_eqI ?_
  | refine w_neI ?_
  | refine w_eqS ?_
  | refine w_neS ?_
  | refine w_or ?_
  | refine w_and ?_
  | refine w_par3 ?_
  | refine w_andV ?_
  | refine w_notV ?_
  | refine w_lcS ?_
  | refine w_forE ?_
  | refine w_m1 ?_
  | refine w_forL ?_
  | refine w_forR1 ?_
  | refine w_isN ?_
  | refine w_notN ?_
  | refine w_fld ?_
  | refine w_methR ?_
  | refine w_propR ?_
  | refine w_propA ?_
  | refine w_methA ?_
  | refine w_subA ?_
  | refine w_makeS ?_
  | refine w_fldS ?_
  | refine w_chain ?_
  | refine w_orV ?_
  | refine w_next ?_
  | refine w_tB ?_
  | refine w_lcL ?_
  | refine w_lcT ?_
  | refine w_lcR1 ?_
  | refine w_lcR2 ?_
  | refine w_turn ?_
  | refine w_yes ?_
  | refine w_par ?_
  | refine w_uI ?_
  | refine w_un ?_
  | refine w_one ?_)
local macro_rules | `(tactic| tm_at "at") => `(tactic| first | exact rfl | exact atI_nat rfl)
local macro_rules | `(tactic| tm_at "ix") => `(tactic| first
  | (with_reducible apply w_ixT; · tm_at "fact"
     · tm_at "at")
  | (with_reducible apply w_ixL; · tm_at "fact"
     · tm_at "at")
  | (with_reducible apply w_gtup; · tm_at "fact"
     · exact rfl))
local macro_rules | `(tactic| tm_at "sx") => `(tactic| repeat (first | tm_at "sx1" | tm_at "ix"))
/-! ### deep data -/
def plD (p : Int × Int) : PyData := .tuple [.int p.1, .int p.2]
def n3D (n : T3) : PyData := .tuple [.int n.1, .int n.2.1, .int n.2.2]
theorem plD_depth (p : Int × Int) : (plD p).depth = 1 := by simp [plD, PyData.depth, PyData.depthAll]
theorem plD_shaped (p : Int × Int) : SeqAt.shaped (plD p) = true := by
  show ((plD p).canLay0 && decide ((plD p).depth ≤ 64)) = true
  rw [plD_depth]; simp [plD, PyData.canLay0, PyData.canLayAll0]
theorem n3D_shaped (p : T3) : SeqAt.shaped (n3D p) = true := by
  show ((n3D p).canLay0 && decide ((n3D p).depth ≤ 64)) = true
  simp [n3D, PyData.canLay0, PyData.canLayAll0, PyData.depth, PyData.depthAll]
theorem plDs_lay : ∀ ps : List (Int × Int), PyData.canLayAll0 (ps.map plD) = true
  | [] => by simp [PyData.canLayAll0]
  | p :: ps => by simp [PyData.canLayAll0, plDs_lay ps, plD, PyData.canLay0]
theorem plDs_depth : ∀ ps : List (Int × Int), PyData.depthAll (ps.map plD) ≤ 1
  | [] => by simp [PyData.depthAll]
  | p :: ps => by
    have h1 := plDs_depth ps
    have h2 := plD_depth p
    simp only [List.map_cons, PyData.depthAll]
    omega
theorem plDs_shaped (ps : List (Int × Int)) : SeqAt.shaped (.list (ps.map plD)) = true := by
  have h1 := plDs_depth ps
  have h2 : PyData.depth (.list (ps.map plD)) ≤ 64 := by
    simp only [PyData.depth]
    omega
  show (PyData.canLay0 (.list (ps.map plD)) && decide (PyData.depth (.list (ps.map plD)) ≤ 64)) = true
  rw [Bool.and_eq_true]
  exact ⟨by simp only [PyData.canLay0]; exact plDs_lay ps, decide_eq_true h2⟩
theorem plD_eqv (p q : Int × Int) : PyData.eqv (plD p) (plD q) = decide (p = q) := by
  obtain ⟨a, b⟩ := p
  obtain ⟨c, d⟩ := q
  have e : PyData.eqv (plD (a, b)) (plD (c, d)) = ((a == c) && ((b == d) && true)) := by simp only [plD, PyData.eqv, PyData.eqvAll]
  rw [e, Bool.and_true]
  by_cases h1 : a = c <;> by_cases h2 : b = d <;> simp [h1, h2]
theorem n3D_eqv (p q : T3) : PyData.eqv (n3D p) (n3D q) = decide (p = q) := by
  obtain ⟨a, b, x⟩ := p
  obtain ⟨c, d, y⟩ := q
  have e : PyData.eqv (n3D (a, b, x)) (n3D (c, d, y)) = ((a == c) && ((b == d) && ((x == y) && true))) := by simp only [n3D, PyData.eqv, PyData.eqvAll]
  rw [e, Bool.and_true]
  by_cases h1 : a = c <;> by_cases h2 : b = d <;> by_cases h3 : x = y <;> simp [h1, h2, h3]
section
variable {K : PySem.W.Frag} {H : Hp} {Q : VK}
theorem pl_dp {a : Addr} {x y : Int} (h : SqT K H a [.int x, .int y]) : Dp K H (.ref a) (plD (x, y)) := .tup h (.cons (.int x) (.cons (.int y) .nil))
theorem w_eqPl {a b : Addr} {x y u v : Int} (ha : SqT K H a [.int x, .int y]) (hb : SqT K H b [.int u, .int v]) (q : Q (.bl (decide ((x, y) = (u, v)))) H) : rEqD K (.ref a) (.ref b) H Q :=
  ⟨_, _, pl_dp ha, pl_dp hb, plD_shaped _, plD_shaped _, by rw [plD_eqv]; exact q⟩
theorem w_nePl {a b : Addr} {x y u v : Int} (ha : SqT K H a [.int x, .int y]) (hb : SqT K H b [.int u, .int v]) (q : Q (.bl (!decide ((x, y) = (u, v)))) H) : rNeD K (.ref a) (.ref b) H Q :=
  ⟨_, _, pl_dp ha, pl_dp hb, plD_shaped _, plD_shaped _, by rw [plD_eqv]; exact q⟩
theorem n3_dp {a : Addr} {n : T3} (h : H a = some (tup3 n)) : Dp K H (.ref a) (n3D n) := .tup (sq_of h) (.cons (.int _) (.cons (.int _) (.cons (.int _) .nil)))
theorem w_eqN3 {a b : Addr} {n m : T3} (ha : H a = some (tup3 n)) (hb : H b = some (tup3 m)) (q : Q (.bl (decide (n = m))) H) : rEqD K (.ref a) (.ref b) H Q :=
  ⟨_, _, n3_dp ha, n3_dp hb, n3D_shaped _, n3D_shaped _, by rw [n3D_eqv]; exact q⟩
/-- refs to places -/
def Ps (H : Hp) : List V → List (Int × Int) → Prop := Paired fun v p => ∃ b, v = .ref b ∧ H b = some (tup2 p)
theorem Ps.same {H H' : Hp} {vs : List V} {ps : List (Int × Int)} (s : Same H H') (h : Ps H vs ps) : Ps H' vs ps := Paired.mapP h fun _ _ ⟨b, e, hb⟩ => ⟨b, e, s _ _ hb⟩
theorem Ps.chg {H H' : Hp} {p : Addr} {o : HO} {vs : List V} {ps : List (Int × Int)} (c : Chg p o H H') (d : ∀ xs, HO.tup xs ≠ o) (h : Ps H vs ps) : Ps H' vs ps := Paired.mapP h fun _ _ ⟨b, e, hb⟩ => ⟨b, e, c.up hb (d _)⟩
theorem Ps.app {vs ws : List V} {ps qs : List (Int × Int)} (h : Ps H vs ps) (g : Ps H ws qs) : Ps H (vs ++ ws) (ps ++ qs) := by
  induction h with
  | nil => exact g
  | cons r _ ih => exact .cons r ih
theorem Ps.one {b : Addr} {p : Int × Int} (h : H b = some (tup2 p)) : Ps H [.ref b] [p] := .cons ⟨b, rfl, h⟩ .nil
theorem Ps.len {vs : List V} {ps : List (Int × Int)} (h : Ps H vs ps) : vs.length = ps.length := Paired.length h
theorem Ps.at {vs : List V} {ps : List (Int × Int)} {i : Nat} {v : V} (h : Ps H vs ps) (e : vs[i]? = some v) : ∃ b p, v = .ref b ∧ H b = some (tup2 p) ∧ ps[i]? = some p := by
  induction h generalizing i with
  | nil => cases e
  | @cons a b l1 l2 r _ ih =>
    cases i with
    | zero => obtain ⟨c, ec, hc⟩ := r; cases e; exact ⟨c, b, ec, hc, rfl⟩
    | succ i => exact ih (i := i) e
theorem Ps.dps {vs : List V} {ps : List (Int × Int)} (h : Ps H vs ps) : DpAll K H vs (ps.map plD) := by
  induction h with
  | nil => exact .nil
  | cons r _ ih => obtain ⟨b, e, hb⟩ := r; subst e; exact .cons (pl_dp (sq_of hb)) ih
theorem w_nePs {a b : Addr} {vs : List V} {ps : List (Int × Int)} (ha : SqL K H a vs) (hp : Ps H vs ps) (hb : SqL K H b []) (q : Q (.bl (!decide (ps = []))) H) : rNeD K (.ref a) (.ref b) H Q := by
  refine ⟨_, _, .lst ha hp.dps, .lst hb .nil, plDs_shaped ps, by decide, ?_⟩
  have e : PyData.eqv (.list (ps.map plD)) (.list []) = decide (ps = []) := by
    cases ps with
    | nil => simp [PyData.eqv, PyData.eqvAll]
    | cons p r => simp [PyData.eqv, PyData.eqvAll]
  rw [e]; exact q
theorem w_eqPs {a b : Addr} {vs : List V} {ps : List (Int × Int)} (ha : SqL K H a vs) (hp : Ps H vs ps) (hb : SqL K H b []) (q : Q (.bl (decide (ps = []))) H) : rEqD K (.ref a) (.ref b) H Q := by
  refine ⟨_, _, .lst ha hp.dps, .lst hb .nil, plDs_shaped ps, by decide, ?_⟩
  have e : PyData.eqv (.list (ps.map plD)) (.list []) = decide (ps = []) := by
    cases ps with
    | nil => simp [PyData.eqv, PyData.eqvAll]
    | cons p r => simp [PyData.eqv, PyData.eqvAll]
  rw [e]; exact q
end
section
variable {P : Program} {w : World} {K : PySem.W.Frag} {mg : Str → Option Value} {base : Heap}
def sp_Net___contains__ (K : PySem.W.Frag) : Sp := fun vs H Q _ => ∃ (o a : Addr) (n : T3) (p : Int × Int), vs = [.ref o, .ref a] ∧ NetV K H o n ∧ NW n p ∧ H a = some (tup2 p) ∧ ∀ H', Same H H' → Q (.bl (decide (low n p = (0, 0)))) H'
theorem ok_Net___contains__ (T : Tx K mg) : FnR P w K mg base CX0 3 (He.ma K (He.ga K "Net") "__contains__") (sp_Net___contains__ K) := by
  refine fnr_of T.f_Net___contains__ sc_Net___contains__ (fun _ _ _ _ _ _ us hl => match us, hl with | [_, _], _ => rfl) (fun vs H Q E h => by obtain ⟨_, _, _, _, rfl, _⟩ := h; rfl) (fun cdv A outer s H vs Q E hr h => ?_)
  have nd := sc_Net___contains__.nd
  refine ⟨_, (pss_one (ps_ret (pe_and (pe_callR (ok_is_place T) (hr.mono (by decide)) rfl T.g_is_place T.k_is_place (pa_cons (pv 1) pa_nil)) (pe_one (pe_cmpR (op_eqD (hu64 hr)) (pe_methR (pv 0) T.c_Net T.m_Net_place_in_cell (ok_Net_place_in_cell T) (hr.mono (by decide)) pass0 (pa_cons (pv 1) pa_nil)) (pe_tupS (pa_cons pe_int (pa_cons pe_int pa_nil))) (nomark _)))))), ?_⟩
  try dsimp only [cxOf]
  obtain ⟨o, a, n, p, rfl, hn, ok, ha, q⟩ := h
  tm_at "sx"
  refine ⟨a, p.1, p.2, rfl, ha, fun H1 (s1 : Same H H1) => ⟨true, rfl, w_tt ?_⟩⟩
  tm_at "sx"
  obtain ⟨dx, t, ho, ht⟩ := id hn
  refine ⟨_, _, _, rfl, Same.up s1 ho, rfl, ?_⟩
  tm_at "sx"
  refine ⟨o, a, n, p, rfl, hn.up s1, ok, Same.up s1 ha, fun b H2 (s2 : Same H1 H2) e2 => ?_⟩
  tm_at "sx"
  refine ⟨by show 2 ≤ sizeLine; decide, fun c H3 nc s3 e3 => ?_⟩
  refine w_eqPl (by tm_at "fact") (by tm_at "fact") (q _ (Same.trans s1 (Same.trans s2 s3)))
def sp_Net___eq__ (K : PySem.W.Frag) : Sp := fun vs H Q _ => ∃ (o b : Addr) (n m : T3), vs = [.ref o, .ref b] ∧ NetV K H o n ∧ NetV K H b m ∧ Q (.bl (decide (n = m))) H
theorem ok_Net___eq__ (T : Tx K mg) : FnR P w K mg base CX0 1 (He.ma K (He.ga K "Net") "__eq__") (sp_Net___eq__ K) := by
  refine fnr_of T.f_Net___eq__ sc_Net___eq__ (fun _ _ _ _ _ _ us hl => match us, hl with | [_, _], _ => rfl) (fun vs H Q E h => by obtain ⟨_, _, _, _, rfl, _⟩ := h; rfl) (fun cdv A outer s H vs Q E hr h => ?_)
  have nd := sc_Net___eq__.nd
  refine ⟨_, (pss_one (ps_ret (pe_and (pe_callB call_isi rfl T.b_isinstance bo_isinstance (pa_cons (pv 1) (pa_cons (pe_glob (v := .ref _) rfl T.g_Net rfl) pa_nil))) (pe_one (pe_cmpR (op_eqD (hu64 hr)) (pe_fld (pv 0) rfl) (pe_fld (pv 1) rfl) (nomark _)))))), ?_⟩
  try dsimp only [cxOf]
  obtain ⟨o, b, n, m, rfl, ⟨dx, t, ho, ht⟩, ⟨dy, u, hb, hu⟩, q⟩ := h
  tm_at "sx"
  refine w_isi (b := true) (.own _) (.base (.ins hb T.c_Net T.ic_Net T.sp_class T.tk_class T.mo_Net)) T.i_Net ?_
  refine ⟨true, rfl, w_tt ?_⟩
  tm_at "sx"
  refine ⟨_, _, _, _, _, rfl, ho, T.c_Net, T.n_Net_own_numbers, rfl, ?_⟩
  tm_at "sx"
  refine ⟨_, _, _, _, _, rfl, hb, T.c_Net, T.n_Net_own_numbers, rfl, ?_⟩
  exact w_eqN3 ht hu q
def rowsTo (n i : Nat) : List (Int × Int) := (List.range' 0 i).flatMap fun (y : Nat) => SG.rowFrom n (y : Int) 0
theorem rowsTo_step (n i : Nat) : rowsTo n (i + 1) = rowsTo n i ++ SG.rowFrom n (i : Int) 0 := by
  unfold rowsTo
  rw [List.range'_1_concat, List.flatMap_append, Nat.zero_add]
  simp
def rowTo (y : Int) (j : Nat) : List (Int × Int) := (List.range' 0 j).map fun (x : Nat) => ((x : Int), y)
theorem rowTo_step (y : Int) (j : Nat) : rowTo y (j + 1) = rowTo y j ++ [((j : Int), y)] := by
  unfold rowTo
  rw [List.range'_1_concat, List.map_append, Nat.zero_add]
  simp
theorem rowsTo_all (n c : Nat) : rowsTo n c = SG.rowsFrom n c 0 := by unfold rowsTo SG.rowsFrom; rw [Nat.sub_zero]
theorem rowTo_all (n : Nat) (y : Int) : rowTo y n = SG.rowFrom n y 0 := by unfold rowTo SG.rowFrom; rw [Nat.sub_zero]
theorem rowsTo_len (n i : Nat) : (rowsTo n i).length = i * n := by
  induction i with
  | zero => simp [rowsTo]
  | succ i ih => rw [rowsTo_step, List.length_append, ih, Nat.succ_mul]; simp [SG.rowFrom]
theorem rowTo_len (y : Int) (i : Nat) : (rowTo y i).length = i := by simp [rowTo]
def sp_Net_spots (K : PySem.W.Frag) : Sp := fun vs H Q _ => ∃ (o : Addr) (n : T3), vs = [.ref o] ∧ NetV K H o n ∧ NOk n ∧ ∀ l us H', Same H H' → H' l = some (.lst us) → Ps H' us (SG.rowsFrom n.1.toNat n.2.2.toNat 0) → Q (.ref l) H'
theorem ok_Net_spots (T : Tx K mg) : FnR P w K mg base CX0 1 (He.ma K (He.ga K "Net") "spots") (sp_Net_spots K) := by
  refine fnr_of T.f_Net_spots sc_Net_spots (fun _ _ _ _ _ _ us hl => match us, hl with | [_], _ => rfl) (fun vs H Q E h => by obtain ⟨_, _, rfl, _⟩ := h; rfl) (fun cdv A outer s H vs Q E hr h => ?_)
  have nd := sc_Net_spots.nd
  refine ⟨_, (pss_cons (ps_asg (pe_fld (pv 0) rfl) (pg_tup rfl (pgs_cons (pg_name (i := 1) nd rfl (Or.inr rfl)) (pgs_cons (pg_name (i := 2) nd rfl (Or.inl rfl)) (pgs_cons (pg_name (i := 3) nd rfl (Or.inl rfl)) pgs_nil)))))
    (pss_one (ps_ret (pe_lc2 (own := [("y", 5), ("x", 4)]) (vs1 := [4]) (g := (gName 5)) (g1 := (gName 4)) rfl nd (pi_range1 rfl T.b_range (pa_cons (pv 3) pa_nil)) (blkOk_by (N := NNet_spots) (sc := defScope sNet_spots) (by decide +kernel)) (by decide) (fun _ _ _ _ _ => (pg_name (i := 5) nd rfl (Or.inl rfl))) (fun _ _ _ _ _ => pts_nil) (fun _ _ _ _ _ => (pi_range1 rfl T.b_range (pa_cons (pv 1) pa_nil))) (fun _ _ _ _ _ => (pg_name (i := 4) nd rfl (Or.inl rfl))) (fun _ _ _ _ _ => pts_nil) (fun _ _ _ _ _ => (pe_tupS (pa_cons (pv 4) (pa_cons (pv 5) pa_nil)))))))), ?_⟩
  try dsimp only [cxOf]
  obtain ⟨o, n, rfl, hn, ok, q⟩ := h
  obtain ⟨dx, t, ho, ht⟩ := id hn
  tm_at "sx"
  refine ⟨_, _, _, _, _, rfl, ho, T.c_Net, T.n_Net_own_numbers, rfl, ?_⟩
  tm_at "sx"
  have h1 := ok.a1
  have h2 := ok.a2
  have h5 := ok.c1
  have h6 := ok.c2
  have hs := ok.sz
  generalize hA : n.1.toNat = A' at q
  generalize hC : n.2.2.toNat = C at q
  have eA : n.1 = (A' : Int) := by omega
  have eC : n.2.2 = (C : Int) := by omega
  have hAC : A' * C ≤ 4000 := by
    have : ((A' * C : Nat) : Int) ≤ 4000 := by rw [Int.natCast_mul, ← eA, ← eC]; exact hs
    omega
  have hsl := sizeLine_eq
  refine ⟨_, rfl, n.2.2, rfl, by omega, by omega, fun D hD => ?_⟩
  rw [hC]
  refine ⟨fun i m H' => m = C - i ∧ i ≤ C ∧ ∃ us, H' D = some (.lst us) ∧ Same H H' ∧ Ps H' us (rowsTo A' i), ⟨C, rfl, Nat.zero_le _, [], upd_same, same_upd hD, .nil⟩, ?_⟩
  rintro i m H1 ⟨rfl, hi, us, eD, s1, p1⟩
  by_cases hlt : i < C
  · refine .inr ⟨hlt, fun H' => (i + 1 ≤ C) ∧ ∃ us, H' D = some (.lst us) ∧ Same H H' ∧ Ps H' us (rowsTo A' (i + 1)), fun H' ⟨z1, z2⟩ => ⟨C - (i + 1), by omega, rfl, z1, z2⟩, ?_⟩
    rintro x H2 ⟨rfl, rfl⟩
    refine ⟨rfl, w_yes ?_⟩
    refine ⟨_, rfl, n.1, rfl, by omega, by omega, ?_⟩
    rw [hA]
    refine ⟨fun j k H' => k = A' - j ∧ j ≤ A' ∧ ∃ us, H' D = some (.lst us) ∧ Same H H' ∧ Ps H' us (rowsTo A' i ++ rowTo (i : Int) j), ⟨A', rfl, Nat.zero_le _, us, eD, s1, by simpa [rowTo] using p1⟩, ?_⟩
    rintro j k H3 ⟨rfl, hj, us3, eD3, s3, p3⟩
    by_cases hlt2 : j < A'
    · refine .inr ⟨hlt2, fun H' => j + 1 ≤ A' ∧ ∃ us, H' D = some (.lst us) ∧ Same H H' ∧ Ps H' us (rowsTo A' i ++ rowTo (i : Int) (j + 1)), fun H' ⟨z1, z2⟩ => ⟨A' - (j + 1), by omega, rfl, z1, z2⟩, ?_⟩
      rintro x H4 ⟨rfl, rfl⟩
      refine ⟨rfl, w_yes ?_⟩
      tm_at "sx"
      refine ⟨by show 2 ≤ sizeLine; decide, fun p H5 np s5 e5 => ?_⟩
      have hlen : us3.length < sizeLine := by
        have e := p3.len
        rw [List.length_append, rowsTo_len, rowTo_len] at e
        have : (i + 1) * A' ≤ C * A' := Nat.mul_le_mul_right _ hlt
        rw [Nat.succ_mul, Nat.mul_comm C] at this
        omega
      have eD5 : H5 D = some (.lst us3) := by tm_at "fact"
      have cc : Chg D (.lst us3) H5 (upd H5 D (.lst (us3 ++ [.ref p]))) := chg_upd eD5
      refine ⟨us3, eD5, hlen, hlt2, _, upd_same, same_chg (Same.trans s3 s5) cc hD, ?_⟩
      rw [rowTo_step, ← List.append_assoc]
      rw [Int.zero_add, Int.zero_add] at e5
      exact ((p3.same s5).chg cc (fun _ z => nomatch z)).app (Ps.one (p := ((j : Int), (i : Int))) (cc.up e5 (fun z => nomatch z)))
    · refine .inl ⟨Nat.not_lt.mp hlt2, hlt, us3, eD3, s3, ?_⟩
      have e : j = A' := by omega
      subst e
      rw [rowsTo_step, ← rowTo_all]
      exact p3
  · refine .inl ⟨Nat.not_lt.mp hlt, ?_⟩
    have e : i = C := by omega
    subst e
    rw [rowsTo_all] at p1
    exact q D us H1 s1 eD p1
def sp_Net_whole (K : PySem.W.Frag) : Sp := fun vs H Q _ => vs = [.ref (He.ga K "Net")] ∧ ∀ o H', Same H H' → NetV K H' o (1, 0, 1) → Q (.ref o) H'
theorem ok_Net_whole (T : Tx K mg) : FnR P w K mg base CX0 5 (He5.wf K (He.ga K "Net") "classmethod" "whole") (sp_Net_whole K) := by
  refine fnr_of T.f_Net_whole sc_Net_whole (fun _ _ _ _ _ _ us hl => match us, hl with | [_], _ => rfl) (fun vs H Q E h => by obtain ⟨rfl, _⟩ := h; rfl) (fun cdv A outer s H vs Q E hr h => ?_)
  have nd := sc_Net_whole.nd
  refine ⟨_, (pss_one (ps_ret (pe_makeVS (i := 0) T.mk_Net (ok_Net___init__ T) (hr.mono (by decide)) rfl (.inl rfl) (pa_cons pe_int (pa_cons pe_int (pa_cons pe_int pa_nil)))))), ?_⟩
  try dsimp only [cxOf]
  obtain ⟨rfl, q⟩ := h
  tm_at "sx"
  refine ⟨rfl, ?_⟩
  tm_at "sx"
  intro x dx H2 h1 h2 hne s2 e2
  refine ⟨x, dx, (1, 0, 1), rfl, e2, ⟨by decide, by decide, by decide, by decide⟩, fun H3 k3 n3 => ⟨rfl, q _ _ (fun b u e => k3 b u (fun z => ?_) (s2 _ _ e)) n3⟩⟩
  subst z; rw [h1] at e; cases e
end
end Cp
set_option Elab.async false
set_option linter.all false
set_option maxRecDepth 100000
set_option maxHeartbeats 2000000
/-! F5: forms. -/
namespace Cp
open PySem PySem.Spec PyProof.Rows L2
local macro_rules | `(tactic| tm_at "fact") => `(tactic| first
  | assumption
  | (apply Same.up; · assumption
     tm_at "fact")
  | (apply Same.upS; · assumption
     tm_at "fact")
  | (apply Same.upL; · assumption
     tm_at "fact")
  | (apply sq_of; tm_at "fact")
  | (apply sl_of; tm_at "fact")
  | (apply Chg.up; · assumption
     · tm_at "fact"
     · exact fun z => nomatch z)
  | (apply Chg.upS; · assumption
     · tm_at "fact"
     · exact fun _ z => nomatch z
     · exact fun _ _ z => nomatch z))
local macro_rules | `(tactic| tm_at "same") => `(tactic| first
  | assumption
  | exact Same.refl _
  | (refine Same.trans ?_ ?_; rotate_left; · assumption
     tm_at "same"))
local macro_rules | `(tactic| tm_at "sx1") => `(tactic| with_reducible first
  | refine w_var rfl ?_
  | refine w_c ?_
  | refine w_op ?_
  | refine w_seq ?_
  | refine w_asg ?_
  | refine w_gname ?_
  | refine w_ret ?_
  | refine w_nil ?_
  | refine w_cons ?_
  | refine w_tup ?_
  | refine w_lst ?_
  | refine w_cb ?_
  | refine w_callR ?_
  | refine w_i0 ?_
  | refine w_gcons ?_
  | refine w_gnil ?_
  | refine w_test ?_
  | refine w_not ?_
  | refine w_ifs ?_
  | refine w_if ?_
  | refine w_expr ?_
  | refine w_eqI ?_
  | refine w_neI ?_
  | refine w_eqS ?_
  | refine w_neS ?_
  | refine w_or ?_
  | refine w_and ?_
  | refine w_par3 ?_
  | refine w_andV ?_
  | refine w_notV ?_
  | refine w_lcS ?_
  | refine w_forE ?_
  | refine w_m1 ?_
  | refine w_forL ?_
  | refine w_forR1 ?_
  | refine w_isN ?_
  | refine w_notN ?_
  | refine w_fld ?_
  | refine w_methR ?_
  | refine w_propR ?_
  | refine w_propA ?_
  | refine w_methA ?_
  | refine w_subA ?_
  | refine w_makeS ?_
  | refine w_fldS ?_
  | refine w_chain ?_
  | refine w_orV ?_
  | refine w_next ?_
  | refine w_tB ?_
  | refine w_lcL ?_
  | refine w_lcT ?_
  | refine w_lcR1 ?_
  | refine w_lcR2 ?_
  | refine w_turn ?_
  | refine w_yes ?_
  | refine w_par ?_
  | refine w_uI ?_
  | refine w_un ?_
  | refine w_one ?_)
local macro_rules | `(tactic| tm_at "at") => `(tactic| first | exact rfl | exact atI_nat rfl)
local macro_rules | `(tactic| tm_at "ix") => `(tactic| first
  | (with_reducible apply w_ixT; · tm_at "fact"
     · tm_at "at")
  | (with_reducible apply w_ixL; · tm_at "fact"
     · tm_at "at")
  | (with_reducible apply w_gtup; · tm_at "fact"
     · exact rfl))
local macro_rules | `(tactic| tm_at "sx") => `(tactic| repeat (first | tm_at "sx1" | tm_at "ix"))
theorem fmod_abs (c : Int) {y : Int} (h : y ≠ 0) : (c.fmod y).natAbs < y.natAbs := by
  rcases Int.lt_or_gt_of_ne h with hy | hy
  · have e := Int.neg_fmod_neg (-c) (-y)
    rw [Int.neg_neg, Int.neg_neg] at e
    have h1 := Int.fmod_nonneg_of_pos (-c) (b := -y) (by omega)
    have h2 := Int.fmod_lt_of_pos (-c) (b := -y) (by omega)
    omega
  · have h1 := Int.fmod_nonneg_of_pos c hy
    have h2 := Int.fmod_lt_of_pos c hy
    omega
theorem fdiv_abs (c : Int) {y : Int} (h : y ≠ 0) : (c.fdiv y).natAbs ≤ c.natAbs + y.natAbs := by
  have h1 := fmod_abs c h
  have e := Int.fdiv_mul_self c y
  have e2 : (c.fdiv y).natAbs * y.natAbs = (c - c.fmod y).natAbs := by rw [← Int.natAbs_mul, e]
  have h3 : (c.fdiv y).natAbs ≤ (c.fdiv y).natAbs * y.natAbs := Nat.le_mul_of_pos_right _ (by omega)
  omega
theorem fmod_sub (c y : Int) : c - c.fdiv y * y = c.fmod y := by
  have := Int.fdiv_mul_self c y
  omega
/-- in the net of (a, 0), (b, c) -/
def Lat (a b c : Int) (p : Int × Int) : Prop := ∃ u v : Int, p = (u * a + v * b, v * c)
section
variable {P : Program} {w : World} {K : PySem.W.Frag} {mg : Str → Option Value} {base : Heap}
/-- what form_of tells -/
def FormP (B : Nat) (ps : List (Int × Int)) : Option T3 → Prop
  | none => ∃ v : Int × Int, ∀ p ∈ ps, ∃ k : Int, p = (k * v.1, k * v.2)
  | some n => 1 ≤ n.1 ∧ 0 ≤ n.2.1 ∧ n.2.1 < n.1 ∧ 1 ≤ n.2.2 ∧ n.2.2 ≤ B ∧ (∃ p ∈ ps, p ≠ (0, 0)) ∧ ∀ p ∈ ps, Lat n.1 n.2.1 n.2.2 p
def sp_form_of (K : PySem.W.Frag) : Sp := fun vs H Q _ => ∃ (l : Addr) (us : List V) (ps : List (Int × Int)) (B : Nat), vs = [.ref l] ∧ SqL K H l us ∧ Ps H us ps ∧ B < 1000000 ∧ (∀ p ∈ ps, p.2.natAbs ≤ B) ∧
  (∀ H', Same H H' → FormP B ps none → Q .non H') ∧ ∀ n t H', Same H H' → FormP B ps (some n) → H' t = some (tup3 n) → Q (.ref t) H'
theorem ok_form_of (T : Tx K mg) : FnR P w K mg base CX0 2 (He.ga K "form_of") (sp_form_of K) := by
  refine fnr_of T.f_form_of sc_form_of (fun _ _ _ _ _ _ us hl => match us, hl with | [_], _ => rfl) (fun vs H Q E h => by obtain ⟨_, _, _, _, rfl, _⟩ := h; rfl) (fun cdv A outer s H vs Q E hr h => ?_)
  have nd := sc_form_of.nd
  refine ⟨_, (pss_cons (ps_asg (pe_tupS (pa_cons pe_int (pa_cons pe_int (pa_cons pe_int pa_nil)))) (pg_tup rfl (pgs_cons (pg_name (i := 1) nd rfl (Or.inl rfl)) (pgs_cons (pg_name (i := 2) nd rfl (Or.inl rfl)) (pgs_cons (pg_name (i := 3) nd rfl (Or.inl rfl)) pgs_nil)))))
    (pss_cons (ps_for PassesOwn.never rfl (pi_list (pv 0)) (pg_tup rfl (pgs_cons (pg_name (i := 4) nd rfl (Or.inl rfl)) (pgs_cons (pg_name (i := 5) nd rfl (Or.inl rfl)) pgs_nil))) (pss_cons (ps_while PassesOwn.never (pt_cmpR op_ne (pv 5) pe_int (nomark _)) (pss_cons (ps_set (i := 6) nd rfl (Or.inl rfl) (pe_op op_fdivN (pv 3) (pv 5)))
    (pss_one (ps_asg (pe_tupS (pa_cons (pv 4) (pa_cons (pv 5) (pa_cons (pe_op op_sub (pv 2) (pe_op op_mul (pv 6) (pv 4))) (pa_cons (pe_op op_sub (pv 3) (pe_op op_mul (pv 6) (pv 5))) pa_nil))))) (pg_tup rfl (pgs_cons (pg_name (i := 2) nd rfl (Or.inl rfl)) (pgs_cons (pg_name (i := 3) nd rfl (Or.inl rfl)) (pgs_cons (pg_name (i := 4) nd rfl (Or.inl rfl)) (pgs_cons (pg_name (i := 5) nd rfl (Or.inl rfl)) pgs_nil)))))))))
    (pss_one (ps_set (i := 1) nd rfl (Or.inl rfl) (pe_callR (ok_greatest_divisor T) (hr.mono (by decide)) rfl T.g_greatest_divisor T.k_greatest_divisor (pa_cons (pv 1) (pa_cons (pv 4) pa_nil)))))))
    (pss_cons (ps_if (PW.pt (pw_or (pt_cmpR op_eq (pv 1) pe_int (nomark _)) (pw_or1 (pt_cmpR op_eq (pv 3) pe_int (nomark _))))) (pss_one (ps_ret pe_non)) pss_nil)
    (pss_one (ps_ret (pe_ifExp (pt_cmpR op_gt (pv 3) pe_int (nomark _)) (pe_tupS (pa_cons (pv 1) (pa_cons (pe_op op_modN (pv 2) (pv 1)) (pa_cons (pv 3) pa_nil)))) (pe_tupS (pa_cons (pv 1) (pa_cons (pe_op op_modN (pe_un un_neg (pv 2)) (pv 1)) (pa_cons (pe_un un_neg (pv 3)) pa_nil)))))))))), ?_⟩
  try dsimp only [cxOf]
  obtain ⟨l, us, ps, B, rfl, hl, hps, hB, hy, q0, q1⟩ := h
  tm_at "sx"
  refine ⟨by show 3 ≤ sizeLine; decide, fun t0 H0 nt s0 e0 => ?_⟩
  tm_at "sx"
  refine ⟨l, rfl, ⟨us, Same.upS' s0 hl⟩, ?_⟩
  refine for_list (xs := us) (fun i σ H' => ∃ (a : Nat) (b c : Int) (o4 o5 o6 : Option V), σ = [some (.ref l), some (.int a), some (.int b), some (.int c), o4, o5, o6] ∧ Same H0 H' ∧ c.natAbs ≤ B ∧ ((∀ p ∈ ps, p = (0, 0)) → c = 0) ∧ ∀ p ∈ ps.take i, Lat a b c p)
    ⟨0, 0, 0, none, none, none, rfl, Same.refl _, Nat.zero_le _, fun _ => rfl, fun p hp => by simp at hp⟩ (fun i σ H' _ hI => ?_) (fun i x σ H' hx hI => ?_) (fun σ H' hI => ?_)
  · obtain ⟨a, b, c, o4, o5, o6, _, s1, _⟩ := hI
    exact Same.upS' s1 (Same.upS' s0 hl)
  · obtain ⟨a, b, c, o4, o5, o6, rfl, s1, hc, hZ, hL⟩ := hI
    obtain ⟨bx, p, rfl, hbx, hpi⟩ := (hps.same (Same.trans s0 s1)).at hx
    tm_at "sx"
    refine ⟨fun m σ H2 => ∃ (b c x y : Int) (o6 : Option V), σ = [some (.ref l), some (.int a), some (.int b), some (.int c), some (.int x), some (.int y), o6] ∧ y.natAbs = m ∧ Same H0 H2 ∧ c.natAbs ≤ B ∧ y.natAbs ≤ B ∧ ((∀ p ∈ ps, p = (0, 0)) → c = 0 ∧ y = 0) ∧ ∀ q ∈ ps.take (i + 1), ∃ u v z : Int, q = (u * a + v * b + z * x, v * c + z * y),
      ⟨_, b, c, p.1, p.2, o6, rfl, rfl, s1, hc, hy p (List.mem_of_getElem? hpi), fun z => ⟨hZ z, by rw [z p (List.mem_of_getElem? hpi)]⟩, fun q hq => ?_⟩, fun m σ H2 hW => ?_⟩
    · rw [List.take_add_one, hpi] at hq
      rcases List.mem_append.mp hq with hq | hq
      · obtain ⟨u, v, e⟩ := hL q hq
        exact ⟨u, v, 0, by rw [e]; simp⟩
      · obtain rfl : q = p := by simpa using hq
        exact ⟨0, 0, 1, by simp⟩
    · obtain ⟨b, c, x, y, o6, rfl, rfl, s2, hc, hyB, hZ, hL⟩ := hW
      tm_at "sx"
      refine ⟨_, rfl, ?_⟩
      by_cases h0 : y = 0
      · subst h0
        refine w_ff ?_
        tm_at "sx"
        refine ⟨_, _, rfl, ?_⟩
        refine ⟨Int.gcd a x, b, c, _, _, _, rfl, s2, hc, fun z => (hZ z).1, fun q hq => ?_⟩
        obtain ⟨u, v, z, e⟩ := hL q hq
        obtain ⟨a', ea⟩ := Int.gcd_dvd_left (a := (a : Int)) (b := x)
        obtain ⟨x', ex⟩ := Int.gcd_dvd_right (a := (a : Int)) (b := x)
        refine ⟨u * a' + z * x', v, ?_⟩
        rw [e]
        refine Prod.ext ?_ ?_
        · show u * a + v * b + z * x = (u * a' + z * x') * (Int.gcd a x : Int) + v * b
          generalize (Int.gcd (a : Int) x : Int) = g at ea ex
          rw [ea, ex]; grind
        · show v * c + z * 0 = v * c
          omega
      · rw [decide_eq_false h0]
        have hq := fdiv_abs c h0
        have hm := fmod_abs c h0
        refine w_tt ⟨fun σ H' => ∃ (b c x y' : Int) (o6 : Option V), σ = [some (.ref l), some (.int a), some (.int b), some (.int c), some (.int x), some (.int y'), o6] ∧ y'.natAbs < y.natAbs ∧ Same H0 H' ∧ c.natAbs ≤ B ∧ ((∀ p ∈ ps, p = (0, 0)) → c = 0 ∧ y' = 0) ∧ ∀ q ∈ ps.take (i + 1), ∃ u v z : Int, q = (u * a + v * b + z * x, v * c + z * y'),
          fun σ H' ⟨b, c, x, y', o6, e, hlt, s, hc, hZ, hL⟩ => ⟨_, hlt, b, c, x, y', o6, e, rfl, s, hc, by omega, hZ, hL⟩, ?_⟩
        tm_at "sx"
        refine w_iC ⟨h0, by omega⟩ ?_
        tm_at "sx"
        refine w_iC (.inl ⟨by omega, by omega⟩) ?_
        tm_at "sx"
        refine w_iC (.inl ⟨by omega, by omega⟩) ?_
        tm_at "sx"
        refine ⟨by show 4 ≤ sizeLine; decide, fun t4 H4 nt4 s4 e4 => ?_⟩
        tm_at "sx"
        refine ⟨x, y, _, _, _, rfl, by rw [fmod_sub]; exact hm, Same.trans s2 s4, hyB, fun z => absurd (hZ z).2 h0, fun q hq => ?_⟩
        obtain ⟨u, v, z, e⟩ := hL q hq
        refine ⟨u, z + v * c.fdiv y, v, ?_⟩
        rw [e]
        refine Prod.ext ?_ ?_
        · show u * a + v * b + z * x = u * a + (z + v * c.fdiv y) * x + v * (b - c.fdiv y * x)
          generalize c.fdiv y = t
          grind
        · show v * c + z * y = (z + v * c.fdiv y) * y + v * (c - c.fdiv y * y)
          generalize c.fdiv y = t
          grind
  · obtain ⟨a, b, c, o4, o5, o6, rfl, s1, hc, hZ, hL⟩ := hI
    have hlen : us.length = ps.length := hps.len
    rw [hlen, List.take_length] at hL
    have sH := Same.trans s0 s1
    tm_at "sx"
    refine ⟨_, rfl, ?_⟩
    by_cases ha : (a : Int) = 0
    · rw [decide_eq_true ha]
      refine w_tt (w_tt ?_)
      tm_at "sx"
      refine q0 _ sH ⟨(b, c), fun p hp => ?_⟩
      obtain ⟨u, v, e⟩ := hL p hp
      exact ⟨v, by rw [e, ha]; simp⟩
    · rw [decide_eq_false ha]
      refine w_ff ?_
      tm_at "sx"
      refine ⟨_, rfl, ?_⟩
      by_cases hc0 : c = 0
      · rw [decide_eq_true hc0]
        refine w_tt ?_
        tm_at "sx"
        refine q0 _ sH ⟨(1, 0), fun p hp => ?_⟩
        obtain ⟨u, v, e⟩ := hL p hp
        exact ⟨p.1, by rw [e, hc0]; simp⟩
      · rw [decide_eq_false hc0]
        refine w_ff ?_
        tm_at "sx"
        refine ⟨_, rfl, ?_⟩
        have ha1 : (0 : Int) < a := by omega
        have nz : ∃ p ∈ ps, p ≠ (0, 0) := Classical.byContradiction fun h => hc0 (hZ fun p hp => Classical.byContradiction fun z => h ⟨p, hp, z⟩)
        by_cases hcp : 0 < c
        · rw [decide_eq_true hcp]
          refine w_tt ?_
          tm_at "sx"
          refine w_iC (by omega) ?_
          tm_at "sx"
          refine ⟨by show 3 ≤ sizeLine; decide, fun t H2 nt s2 e2 => ?_⟩
          refine q1 (a, b.fmod a, c) t H2 (Same.trans sH s2) ⟨by show 1 ≤ (a : Int); omega, Int.fmod_nonneg_of_pos b ha1, Int.fmod_lt_of_pos b ha1, hcp, by show c ≤ (B : Int); omega, nz, fun p hp => ?_⟩ e2
          obtain ⟨u, v, e⟩ := hL p hp
          refine ⟨u + v * b.fdiv a, v, ?_⟩
          rw [e]
          refine Prod.ext ?_ rfl
          show u * a + v * b = (u + v * b.fdiv a) * a + v * b.fmod a
          have e3 := Int.fdiv_mul_self b a
          generalize b.fdiv a = t at *
          generalize b.fmod a = r at *
          grind
        · rw [decide_eq_false hcp]
          refine w_ff ?_
          tm_at "sx"
          refine w_iC (by omega) ?_
          tm_at "sx"
          refine ⟨by show 3 ≤ sizeLine; decide, fun t H2 nt s2 e2 => ?_⟩
          refine q1 (a, (-b).fmod a, -c) t H2 (Same.trans sH s2) ⟨by show 1 ≤ (a : Int); omega, Int.fmod_nonneg_of_pos (-b) ha1, Int.fmod_lt_of_pos (-b) ha1, by show 1 ≤ -c; omega, by show -c ≤ (B : Int); omega, nz, fun p hp => ?_⟩ e2
          obtain ⟨u, v, e⟩ := hL p hp
          refine ⟨u - v * (-b).fdiv a, -v, ?_⟩
          rw [e]
          refine Prod.ext ?_ (by show v * c = -v * -c; rw [Int.neg_mul_neg])
          show u * a + v * b = (u - v * (-b).fdiv a) * a + -v * (-b).fmod a
          have e3 := Int.fdiv_mul_self (-b) a
          generalize (-b).fdiv a = t at *
          generalize (-b).fmod a = r at *
          grind
end
end Cp
set_option Elab.async false
set_option linter.all false
set_option maxRecDepth 100000
set_option maxHeartbeats 2000000
/-! F6: bases, neighbours. -/
namespace Cp
open PySem PySem.Spec PyProof.Rows L2
local macro_rules | `(tactic| tm_at "fact") => `(tactic| first
  | assumption
  | (apply Same.up; · assumption
     tm_at "fact")
  | (apply Same.upS; · assumption
     tm_at "fact")
  | (apply Same.upL; · assumption
     tm_at "fact")
  | (apply sq_of; tm_at "fact")
  | (apply sl_of; tm_at "fact")
  | (apply Chg.up; · assumption
     · tm_at "fact"
     · exact fun z => nomatch z)
  | (apply Chg.upS; · assumption
     · tm_at "fact"
     · exact fun _ z => nomatch z
     · exact fun _ _ z => nomatch z))
local macro_rules | `(tactic| tm_at "same") => `(tactic| first
  | assumption
  | exact Same.refl _
  | (refine Same.trans ?_ ?_; rotate_left; · assumption
     tm_at "same"))
local macro_rules | `(tactic| tm_at "sx1") => `(tactic| with_reducible first
  | refine w_var rfl ?_
  | refine w_c ?_
  | refine w_op ?_
  | refine w_seq ?_
  | refine w_asg ?_
  | refine w_gname ?_
  | refine w_ret ?_
  | refine w_nil ?_
  | refine w_cons ?_
  | refine w_tup ?_
  | refine w_lst ?_
  | refine w_cb ?_
  | refine w_callR ?_
  | refine w_i0 ?_
  | refine w_gcons ?_
  | refine w_gnil ?_
  | refine w_test ?_
  | refine w_not ?_
  | refine w_ifs ?_
  | refine w_if ?_
  | refine w_expr ?_
  | refine w_eqI ?_
  | refine w_neI ?_
  | refine w_eqS ?_
  | refine w_neS ?_
  | refine w_or ?_
  | refine w_and ?_
  | refine w_par3 ?_
  | refine w_andV ?_
  | refine w_notV ?_
  | refine w_lcS ?_
  | refine w_forE ?_
  | refine w_m1 ?_
  | refine w_forL ?_
  | refine w_forR1 ?_
  | refine w_isN ?_
  | refine w_notN ?_
  | refine w_fld ?_
  | refine w_methR ?_
  | refine w_propR ?_
  | refine w_propA ?_
  | refine w_methA ?_
  | refine w_subA ?_
  | refine w_makeS ?_
  | refine w_fldS ?_
  | refine w_chain ?_
  | refine w_orV ?_
  | refine w_next ?_
  | refine w_tB ?_
  | refine w_lcL ?_
  | refine w_lcT ?_
  | refine w_lcR1 ?_
  | refine w_lcR2 ?_
  | refine w_turn ?_
  | refine w_yes ?_
  | refine w_par ?_
  | refine w_uI ?_
  | refine w_un ?_
  | refine w_one ?_)
local macro_rules | `(tactic| tm_at "at") => `(tactic| first | exact rfl | exact atI_nat rfl)
local macro_rules | `(tactic| tm_at "ix") => `(tactic| first
  | (with_reducible apply w_ixT; · tm_at "fact"
     · tm_at "at")
  | (with_reducible apply w_ixL; · tm_at "fact"
     · tm_at "at")
  | (with_reducible apply w_gtup; · tm_at "fact"
     · exact rfl))
local macro_rules | `(tactic| tm_at "sx") => `(tactic| repeat (first | tm_at "sx1" | tm_at "ix"))
theorem fdiv_scale (k m : Int) {c : Int} (h : c ≠ 0) : (k * c).fdiv (m * c) = k.fdiv m := by
  rcases Int.lt_or_gt_of_ne h with hc | hc
  · have e := Int.mul_fdiv_mul_of_pos k m (a := -c) (by omega)
    rw [← e, ← Int.neg_fdiv_neg]
    congr 1 <;> grind
  · rw [Int.mul_comm k, Int.mul_comm m]
    exact Int.mul_fdiv_mul_of_pos k m hc
theorem scale_le {m m' v : Int} {B : Nat} (h : m'.natAbs ≤ m.natAbs) (hb : (m * v).natAbs ≤ B) : (m' * v).natAbs ≤ B := by
  rw [Int.natAbs_mul] at *
  exact Nat.le_trans (Nat.mul_le_mul_right _ h) hb
/-- the tuples of a basis -/
def BasV (H : Hp) (t : Addr) (B : Nat) (ps : List (Int × Int)) : Prop :=
  (H t = some (.tup []) ∧ ∀ p ∈ ps, p = (0, 0)) ∨
  (∃ (b : Addr) (v : Int × Int), H t = some (.tup [.ref b]) ∧ H b = some (tup2 v) ∧ v ≠ (0, 0) ∧ v.1.natAbs ≤ B ∧ v.2.natAbs ≤ B ∧ (∃ p ∈ ps, p ≠ (0, 0)) ∧ ∀ p ∈ ps, ∃ k : Int, p = (k * v.1, k * v.2)) ∨
  ∃ (b c : Addr) (n : T3), H t = some (.tup [.ref b, .ref c]) ∧ H b = some (tup2 (n.1, 0)) ∧ H c = some (tup2 (n.2.1, n.2.2)) ∧ 1 ≤ n.1 ∧ 0 ≤ n.2.1 ∧ n.2.1 < n.1 ∧ 1 ≤ n.2.2 ∧ n.2.2 ≤ B ∧ (∃ p ∈ ps, p ≠ (0, 0)) ∧ ∀ p ∈ ps, Lat n.1 n.2.1 n.2.2 p
theorem BasV.up {H H' : Hp} {t : Addr} {B : Nat} {ps : List (Int × Int)} (s : Same H H') (h : BasV H t B ps) : BasV H' t B ps := by
  rcases h with ⟨h1, h2⟩ | ⟨b, v, h1, h2, h3⟩ | ⟨b, c, n, h1, h2, h3, h4⟩
  · exact .inl ⟨s _ _ h1, h2⟩
  · exact .inr (.inl ⟨b, v, s _ _ h1, s _ _ h2, h3⟩)
  · exact .inr (.inr ⟨b, c, n, s _ _ h1, s _ _ h2, s _ _ h3, h4⟩)
section
variable {P : Program} {w : World} {K : PySem.W.Frag} {mg : Str → Option Value} {base : Heap}
def sp_line_basis (K : PySem.W.Frag) : Sp := fun vs H Q _ => ∃ (l : Addr) (us : List V) (ps : List (Int × Int)) (B : Nat) (v : Int × Int), vs = [.ref l] ∧ SqL K H l us ∧ Ps H us ps ∧ B < 1000000 ∧ (∀ p ∈ ps, p.1.natAbs ≤ B ∧ p.2.natAbs ≤ B) ∧ (∀ p ∈ ps, ∃ k : Int, p = (k * v.1, k * v.2)) ∧
  ∀ t H', Same H H' → BasV H' t B ps → Q (.ref t) H'
theorem ok_line_basis (T : Tx K mg) : FnR P w K mg base CX0 1 (He.ga K "line_basis") (sp_line_basis K) := by
  refine fnr_of T.f_line_basis sc_line_basis (fun _ _ _ _ _ _ us hl => match us, hl with | [_], _ => rfl) (fun vs H Q E h => by obtain ⟨_, _, _, _, _, rfl, _⟩ := h; rfl) (fun cdv A outer s H vs Q E hr h => ?_)
  have nd := sc_line_basis.nd
  refine ⟨_, (pss_cons (ps_asg (pe_tupS (pa_cons pe_int (pa_cons pe_int pa_nil))) (pg_tup rfl (pgs_cons (pg_name (i := 1) nd rfl (Or.inl rfl)) (pgs_cons (pg_name (i := 2) nd rfl (Or.inl rfl)) pgs_nil))))
    (pss_cons (ps_for PassesOwn.never rfl (pi_list (pv 0)) (pg_tup rfl (pgs_cons (pg_name (i := 3) nd rfl (Or.inl rfl)) (pgs_cons (pg_name (i := 4) nd rfl (Or.inl rfl)) pgs_nil))) (pss_one (ps_while PassesOwn.never (pt_cmpR (op_neD (hu64 hr)) (pe_tupS (pa_cons (pv 3) (pa_cons (pv 4) pa_nil))) (pe_tupS (pa_cons pe_int (pa_cons pe_int pa_nil))) (nomark _)) (pss_cons (ps_set (i := 5) nd rfl (Or.inl rfl) (pe_ifExp (pt_cmpR op_ne (pv 4) pe_int (nomark _)) (pe_op op_fdivN (pv 2) (pv 4)) (pe_op op_fdivN (pv 1) (pv 3))))
    (pss_one (ps_asg (pe_tupS (pa_cons (pv 3) (pa_cons (pv 4) (pa_cons (pe_op op_sub (pv 1) (pe_op op_mul (pv 5) (pv 3))) (pa_cons (pe_op op_sub (pv 2) (pe_op op_mul (pv 5) (pv 4))) pa_nil))))) (pg_tup rfl (pgs_cons (pg_name (i := 1) nd rfl (Or.inl rfl)) (pgs_cons (pg_name (i := 2) nd rfl (Or.inl rfl)) (pgs_cons (pg_name (i := 3) nd rfl (Or.inl rfl)) (pgs_cons (pg_name (i := 4) nd rfl (Or.inl rfl)) pgs_nil)))))))))))
    (pss_cons (ps_if (pt_cmpR (op_eqD (hu64 hr)) (pe_tupS (pa_cons (pv 1) (pa_cons (pv 2) pa_nil))) (pe_tupS (pa_cons pe_int (pa_cons pe_int pa_nil))) (nomark _)) (pss_one (ps_ret (pe_tupS pa_nil))) pss_nil)
    (pss_one (ps_ret (pe_ifExp (PW.pt (pw_or (pt_cmpR op_gt (pv 2) pe_int (nomark _)) (pw_or1 (PW.pt (pw_and (pt_cmpR op_eq (pv 2) pe_int (nomark _)) (pw_and1 (pt_cmpR op_gt (pv 1) pe_int (nomark _)))))))) (pe_tupS (pa_cons (pe_tupS (pa_cons (pv 1) (pa_cons (pv 2) pa_nil))) pa_nil)) (pe_tupS (pa_cons (pe_tupS (pa_cons (pe_un un_neg (pv 1)) (pa_cons (pe_un un_neg (pv 2)) pa_nil))) pa_nil)))))))), ?_⟩
  try dsimp only [cxOf]
  obtain ⟨l, us, ps, B, v, rfl, hl, hps, hB, hb, hv, q⟩ := h
  -- the common vector is not zero
  obtain ⟨v, hv0, hv⟩ : ∃ v : Int × Int, v ≠ (0, 0) ∧ ∀ p ∈ ps, ∃ k : Int, p = (k * v.1, k * v.2) := by
    by_cases h0 : v = (0, 0)
    · exact ⟨(1, 0), by decide, fun p hp => ⟨0, by obtain ⟨k, e⟩ := hv p hp; rw [e, h0]; simp⟩⟩
    · exact ⟨v, h0, hv⟩
  tm_at "sx"
  refine ⟨by show 2 ≤ sizeLine; decide, fun t0 H0 nt s0 e0 => ?_⟩
  tm_at "sx"
  refine ⟨l, rfl, ⟨us, Same.upL s0 hl⟩, ?_⟩
  refine for_list (xs := us) (fun i σ H' => ∃ (k : Int) (o3 o4 o5 : Option V), σ = [some (.ref l), some (.int (k * v.1)), some (.int (k * v.2)), o3, o4, o5] ∧ Same H0 H' ∧ (k * v.1).natAbs ≤ B ∧ (k * v.2).natAbs ≤ B ∧ ((∀ p ∈ ps, p = (0, 0)) → k = 0) ∧ ∀ p ∈ ps.take i, ∃ z : Int, p = (z * (k * v.1), z * (k * v.2)))
    ⟨0, none, none, none, by rw [Int.zero_mul, Int.zero_mul]; rfl, Same.refl _, by simp, by simp, fun _ => rfl, fun p hp => by simp at hp⟩ (fun i σ H' _ hI => ?_) (fun i x σ H' hx hI => ?_) (fun σ H' hI => ?_)
  · obtain ⟨k, o3, o4, o5, _, s1, _⟩ := hI
    exact Same.upL s1 (Same.upL s0 hl)
  · obtain ⟨k, o3, o4, o5, rfl, s1, hk1, hk2, hZ, hL⟩ := hI
    obtain ⟨bx, p, rfl, hbx, hpi⟩ := (hps.same (Same.trans s0 s1)).at hx
    obtain ⟨m, ep⟩ := hv p (List.mem_of_getElem? hpi)
    obtain ⟨hb1, hb2⟩ := hb p (List.mem_of_getElem? hpi)
    have m0 : (m * v.1, m * v.2) = (0, 0) → m = 0 := fun z => Classical.byContradiction fun hm => hv0 (Prod.ext ((Int.mul_eq_zero.mp (congrArg Prod.fst z)).resolve_left hm) ((Int.mul_eq_zero.mp (congrArg Prod.snd z)).resolve_left hm))
    tm_at "sx"
    refine ⟨fun j σ H2 => ∃ (k m : Int) (o5 : Option V), σ = [some (.ref l), some (.int (k * v.1)), some (.int (k * v.2)), some (.int (m * v.1)), some (.int (m * v.2)), o5] ∧ m.natAbs = j ∧ Same H0 H2 ∧ (k * v.1).natAbs ≤ B ∧ (k * v.2).natAbs ≤ B ∧ (m * v.1).natAbs ≤ B ∧ (m * v.2).natAbs ≤ B ∧ ((∀ p ∈ ps, p = (0, 0)) → k = 0 ∧ m = 0) ∧ ∀ q ∈ ps.take (i + 1), ∃ z y : Int, q = (z * (k * v.1) + y * (m * v.1), z * (k * v.2) + y * (m * v.2)),
      ⟨_, k, m, o5, by rw [ep]; rfl, rfl, s1, hk1, hk2, by rw [ep] at hb1; exact hb1, by rw [ep] at hb2; exact hb2, fun z => ⟨hZ z, m0 (by rw [← ep]; exact z p (List.mem_of_getElem? hpi))⟩, fun q hq => ?_⟩, fun j σ H2 hW => ?_⟩
    · rw [List.take_add_one, hpi] at hq
      rcases List.mem_append.mp hq with hq | hq
      · obtain ⟨z, e⟩ := hL q hq
        exact ⟨z, 0, by rw [e]; simp⟩
      · obtain rfl : q = p := by simpa using hq
        exact ⟨0, 1, by rw [ep]; simp⟩
    · obtain ⟨k, m, o5, rfl, rfl, s2, hk1, hk2, hm1, hm2, hZ, hL⟩ := hW
      tm_at "sx"
      refine ⟨by show 2 ≤ sizeLine; decide, fun t1 H3 nt1 s3 e3 => ?_⟩
      tm_at "sx"
      refine ⟨by show 2 ≤ sizeLine; decide, fun t2 H4 nt2 s4 e4 => ?_⟩
      refine w_nePl (by tm_at "fact") (by tm_at "fact") ?_
      refine ⟨_, rfl, ?_⟩
      by_cases h0 : (m * v.1, m * v.2) = (0, 0)
      · rw [decide_eq_true h0]
        refine w_ff ⟨k, _, _, _, rfl, Same.trans s2 (Same.trans s3 s4), hk1, hk2, fun z => (hZ z).1, fun q hq => ?_⟩
        obtain ⟨z, y, e⟩ := hL q hq
        have h1 : m * v.1 = 0 := congrArg Prod.fst h0
        have h2 : m * v.2 = 0 := congrArg Prod.snd h0
        exact ⟨z, by rw [e, h1, h2]; simp⟩
      · rw [decide_eq_false h0]
        have hm0 : m ≠ 0 := fun z => h0 (by rw [z]; simp)
        have hmod := fmod_abs k hm0
        refine w_tt ⟨fun σ H2 => ∃ (k' m' : Int) (o5 : Option V), σ = [some (.ref l), some (.int (k' * v.1)), some (.int (k' * v.2)), some (.int (m' * v.1)), some (.int (m' * v.2)), o5] ∧ m'.natAbs < m.natAbs ∧ Same H0 H2 ∧ (k' * v.1).natAbs ≤ B ∧ (k' * v.2).natAbs ≤ B ∧ (m' * v.1).natAbs ≤ B ∧ (m' * v.2).natAbs ≤ B ∧ ((∀ p ∈ ps, p = (0, 0)) → k' = 0 ∧ m' = 0) ∧ ∀ q ∈ ps.take (i + 1), ∃ z y : Int, q = (z * (k' * v.1) + y * (m' * v.1), z * (k' * v.2) + y * (m' * v.2)),
          fun σ H' ⟨k', m', o5, e, hlt, r⟩ => ⟨_, hlt, k', m', o5, e, rfl, r⟩, ?_⟩
        tm_at "sx"
        refine ⟨_, rfl, ?_⟩
        by_cases hu : m * v.2 = 0
        all_goals first
          | (rw [decide_eq_true hu]
             refine w_ff ?_
             tm_at "sx"
             have hv2 : v.2 = 0 := by rcases Int.mul_eq_zero.mp hu with z | z; exact absurd z hm0; exact z
             have hv1 : v.1 ≠ 0 := fun z => hv0 (Prod.ext z hv2)
             refine w_iC ⟨Int.mul_ne_zero hm0 hv1, by omega⟩ ?_
             rw [fdiv_scale k m hv1])
          | (rw [decide_eq_false hu]
             refine w_tt ?_
             tm_at "sx"
             have hv2 : v.2 ≠ 0 := fun z => hu (by rw [z, Int.mul_zero])
             refine w_iC ⟨hu, by omega⟩ ?_
             rw [fdiv_scale k m hv2])
        all_goals
          (have hq : (k.fdiv m).natAbs ≤ k.natAbs := Int.natAbs_fdiv_le_natAbs _ _
           have hmul : ∀ c : Int, (k * c).natAbs ≤ B → c ≠ 0 → k.natAbs ≤ B := fun c hc hc0 => by
             rw [Int.natAbs_mul] at hc
             exact Nat.le_trans (Nat.le_mul_of_pos_right _ (by omega)) hc
           have hkB : k.natAbs ≤ B := by
             by_cases z : v.1 = 0
             · exact hmul v.2 hk2 (fun z2 => hv0 (Prod.ext z z2))
             · exact hmul v.1 hk1 z
           tm_at "sx"
           refine w_iC (.inl ⟨by omega, by omega⟩) ?_
           tm_at "sx"
           refine w_iC (.inl ⟨by omega, by omega⟩) ?_
           tm_at "sx"
           refine ⟨by show 4 ≤ sizeLine; decide, fun t4 H5 nt4 s5 e5 => ?_⟩
           tm_at "sx"
           have hm' : (k - k.fdiv m * m).natAbs < m.natAbs := by rw [fmod_sub]; exact hmod
           refine ⟨m, k - k.fdiv m * m, some (.int (k.fdiv m)), ?_, hm', Same.trans s2 (Same.trans s3 (Same.trans s4 s5)), hm1, hm2, scale_le (Nat.le_of_lt hm') hm1, scale_le (Nat.le_of_lt hm') hm2, fun z => absurd (hZ z).2 hm0, fun q hq => ?_⟩
           · rw [Int.sub_mul, Int.sub_mul, Int.mul_assoc, Int.mul_assoc]; rfl
           · obtain ⟨z, y, e⟩ := hL q hq
             refine ⟨y + z * k.fdiv m, z, ?_⟩
             rw [e]
             generalize k.fdiv m = t
             refine Prod.ext ?_ ?_
             · show z * (k * v.1) + y * (m * v.1) = (y + z * t) * (m * v.1) + z * ((k - t * m) * v.1)
               grind
             · show z * (k * v.2) + y * (m * v.2) = (y + z * t) * (m * v.2) + z * ((k - t * m) * v.2)
               grind)
  · obtain ⟨k, o3, o4, o5, rfl, s1, hk1, hk2, hZ, hL⟩ := hI
    have hlen : us.length = ps.length := hps.len
    rw [hlen, List.take_length] at hL
    have sH := Same.trans s0 s1
    tm_at "sx"
    refine ⟨by show 2 ≤ sizeLine; decide, fun t1 H3 nt1 s3 e3 => ?_⟩
    tm_at "sx"
    refine ⟨by show 2 ≤ sizeLine; decide, fun t2 H4 nt2 s4 e4 => ?_⟩
    refine w_eqPl (by tm_at "fact") (by tm_at "fact") ?_
    refine ⟨_, rfl, ?_⟩
    by_cases h0 : (k * v.1, k * v.2) = (0, 0)
    · rw [decide_eq_true h0]
      refine w_tt ?_
      tm_at "sx"
      refine ⟨Nat.zero_le _, fun t3 H5 _ s5 e5 => q t3 H5 (Same.trans sH (Same.trans s3 (Same.trans s4 s5))) (.inl ⟨e5, fun p hp => ?_⟩)⟩
      obtain ⟨z, e⟩ := hL p hp
      have h1 : k * v.1 = 0 := congrArg Prod.fst h0
      have h2 : k * v.2 = 0 := congrArg Prod.snd h0
      rw [e, h1, h2]; simp
    · rw [decide_eq_false h0]
      refine w_ff ?_
      tm_at "sx"
      have fin : ∀ (b t : Addr) (sg : Int) (H' : Hp), (sg = 1 ∨ sg = -1) → Same H4 H' → H' t = some (.tup [.ref b]) → H' b = some (tup2 (sg * (k * v.1), sg * (k * v.2))) → Q (.ref t) H' := fun b t sg H' hs s5 e5 e6 =>
        q t H' (Same.trans sH (Same.trans s3 (Same.trans s4 s5))) (.inr (.inl ⟨b, _, e5, e6, by rcases hs with rfl | rfl; (· simpa using h0); (· intro z; apply h0; have z1 : -1 * (k * v.1) = 0 := congrArg Prod.fst z; have z2 : -1 * (k * v.2) = 0 := congrArg Prod.snd z; refine Prod.ext ?_ ?_; (· show k * v.1 = 0; omega); (· show k * v.2 = 0; omega)),
          by rcases hs with rfl | rfl; (· simpa using hk1); (· simpa using hk1), by rcases hs with rfl | rfl; (· simpa using hk2); (· simpa using hk2), Classical.byContradiction fun h => h0 (by rw [hZ fun p hp => Classical.byContradiction fun z => h ⟨p, hp, z⟩]; simp), fun p hp => by
            obtain ⟨z, e⟩ := hL p hp
            refine ⟨z * sg, ?_⟩
            rw [e]
            rcases hs with rfl | rfl
            · simp
            · refine Prod.ext ?_ ?_
              · show z * (k * v.1) = z * -1 * (-1 * (k * v.1)); grind
              · show z * (k * v.2) = z * -1 * (-1 * (k * v.2)); grind⟩))
      have plus : tTupS (tCons (tTupS (tCons (tVar 1) (tCons (tVar 2) tNil))) tNil) [some (.ref l), some (.int (k * v.1)), some (.int (k * v.2)), o3, o4, o5] H4 Q := by
        tm_at "sx"
        refine ⟨by show 2 ≤ sizeLine; decide, fun b H5 nb s5 e5 => ?_⟩
        tm_at "sx"
        refine ⟨by show 1 ≤ sizeLine; decide, fun t H6 nt6 s6 e6 => fin b t 1 H6 (.inl rfl) (Same.trans s5 s6) e6 ?_⟩
        rw [Int.one_mul, Int.one_mul]
        exact s6 _ _ e5
      refine ⟨_, rfl, ?_⟩
      by_cases hy : 0 < k * v.2
      · rw [decide_eq_true hy]
        exact w_tt (w_tt plus)
      · rw [decide_eq_false hy]
        refine w_ff ?_
        tm_at "sx"
        refine ⟨_, rfl, ?_⟩
        have minus : tTupS (tCons (tTupS (tCons (tUn (rU fun i => V.int (-i)) (tVar 1)) (tCons (tUn (rU fun i => V.int (-i)) (tVar 2)) tNil))) tNil) [some (.ref l), some (.int (k * v.1)), some (.int (k * v.2)), o3, o4, o5] H4 Q := by
          tm_at "sx"
          refine ⟨by show 2 ≤ sizeLine; decide, fun b H5 nb s5 e5 => ?_⟩
          tm_at "sx"
          refine ⟨by show 1 ≤ sizeLine; decide, fun t H6 nt6 s6 e6 => fin b t (-1) H6 (.inr rfl) (Same.trans s5 s6) e6 ?_⟩
          rw [Int.neg_one_mul, Int.neg_one_mul]
          exact s6 _ _ e5
        by_cases hy0 : k * v.2 = 0
        · rw [decide_eq_true hy0]
          refine w_tt ?_
          tm_at "sx"
          refine ⟨_, rfl, ?_⟩
          by_cases hx0 : 0 < k * v.1
          · rw [decide_eq_true hx0]
            exact w_tt plus
          · rw [decide_eq_false hx0]
            exact w_ff minus
        · rw [decide_eq_false hy0]
          exact w_ff (w_ff minus)
def sp_basis_of (K : PySem.W.Frag) : Sp := fun vs H Q _ => ∃ (l : Addr) (us : List V) (ps : List (Int × Int)) (B : Nat), vs = [.ref l] ∧ SqL K H l us ∧ Ps H us ps ∧ B < 1000000 ∧ (∀ p ∈ ps, p.1.natAbs ≤ B ∧ p.2.natAbs ≤ B) ∧
  ∀ t H', Same H H' → BasV H' t B ps → Q (.ref t) H'
theorem ok_basis_of (T : Tx K mg) : FnR P w K mg base CX0 3 (He.ga K "basis_of") (sp_basis_of K) := by
  refine fnr_of T.f_basis_of sc_basis_of (fun _ _ _ _ _ _ us hl => match us, hl with | [_], _ => rfl) (fun vs H Q E h => by obtain ⟨_, _, _, _, rfl, _⟩ := h; rfl) (fun cdv A outer s H vs Q E hr h => ?_)
  have nd := sc_basis_of.nd
  refine ⟨_, (pss_cons (ps_set (i := 1) nd rfl (Or.inl rfl) (pe_callR (ok_form_of T) (hr.mono (by decide)) rfl T.g_form_of T.k_form_of (pa_cons (pv 0) pa_nil)))
    (pss_cons (ps_if (pt_cmp (pc_isN (pv 1))) (pss_one (ps_ret (pe_callR (ok_line_basis T) (hr.mono (by decide)) rfl T.g_line_basis T.k_line_basis (pa_cons (pv 0) pa_nil)))) pss_nil)
    (pss_cons (ps_asg (pv 1) (pg_tup rfl (pgs_cons (pg_name (i := 2) nd rfl (Or.inl rfl)) (pgs_cons (pg_name (i := 3) nd rfl (Or.inl rfl)) (pgs_cons (pg_name (i := 4) nd rfl (Or.inl rfl)) pgs_nil)))))
    (pss_one (ps_ret (pe_tupS (pa_cons (pe_tupS (pa_cons (pv 2) (pa_cons pe_int pa_nil))) (pa_cons (pe_tupS (pa_cons (pv 3) (pa_cons (pv 4) pa_nil))) pa_nil)))))))), ?_⟩
  try dsimp only [cxOf]
  obtain ⟨l, us, ps, B, rfl, hl, hps, hB, hb, q⟩ := h
  tm_at "sx"
  refine ⟨l, us, ps, B, rfl, hl, hps, hB, fun p hp => (hb p hp).2, fun H1 s1 ⟨v, hv⟩ => ?_, fun n t H1 s1 ⟨f1, f2, f3, f4, f5, f6, f7⟩ e1 => ?_⟩
  · tm_at "sx"
    refine ⟨true, rfl, w_tt ?_⟩
    tm_at "sx"
    exact ⟨l, us, ps, B, v, rfl, Same.upL s1 hl, hps.same s1, hB, hb, hv, fun t H2 s2 b => q t H2 (Same.trans s1 s2) b⟩
  · tm_at "sx"
    refine ⟨false, rfl, w_ff ?_⟩
    tm_at "sx"
    refine ⟨by show 2 ≤ sizeLine; decide, fun b H2 nb s2 e2 => ?_⟩
    tm_at "sx"
    refine ⟨by show 2 ≤ sizeLine; decide, fun c H3 nc s3 e3 => ?_⟩
    tm_at "sx"
    refine ⟨by show 2 ≤ sizeLine; decide, fun r H4 nr s4 e4 => ?_⟩
    exact q r H4 (Same.trans s1 (Same.trans s2 (Same.trans s3 s4))) (.inr (.inr ⟨b, c, n, e4, Same.up s4 (Same.up s3 e2), Same.up s4 e3, f1, f2, f3, f4, f5, f6, f7⟩))
def nbs (p : Int × Int) : List (Int × Int) := [(p.1 + 1, p.2), (p.1, p.2 + 1), (p.1 - 1, p.2), (p.1, p.2 - 1)]
def sp_neighbours (K : PySem.W.Frag) : Sp := fun vs H Q _ => ∃ (a : Addr) (p : Int × Int), vs = [.ref a] ∧ H a = some (tup2 p) ∧ ∀ l us H', H l = none → Same H H' → H' l = some (.lst us) → Ps H' us (nbs p) → Q (.ref l) H'
theorem ok_neighbours (T : Tx K mg) : FnR P w K mg base CX0 2 (He.ga K "neighbours") (sp_neighbours K) := by
  refine fnr_of T.f_neighbours sc_neighbours (fun _ _ _ _ _ _ us hl => match us, hl with | [_], _ => rfl) (fun vs H Q E h => by obtain ⟨_, _, rfl, _⟩ := h; rfl) (fun cdv A outer s H vs Q E hr h => ?_)
  have nd := sc_neighbours.nd
  refine ⟨_, (pss_one (ps_ret (pe_lcT (own := [("step", 1)]) (g := (gName 1)) rfl nd (pe_glob (v := .ref _) rfl T.g_STEPS rfl) (blkOk_by (N := Nneighbours) (sc := defScope sneighbours) (by decide +kernel)) (fun _ _ _ _ _ => (pg_name (i := 1) nd rfl (Or.inl rfl))) (fun _ _ _ _ _ => pts_nil) (fun _ _ _ _ _ => (pe_callR (ok_plus T) (hr.mono (by decide)) rfl T.g_plus T.k_plus (pa_cons (pv 0) (pa_cons (pv 1) pa_nil))))))), ?_⟩
  try dsimp only [cxOf]
  obtain ⟨a, p, rfl, ha, q⟩ := h
  obtain ⟨b1, b2, b3, b4, hS, h1, h2, h3, h4⟩ := T.steps
  tm_at "sx"
  refine ⟨_, _, rfl, hS H, by show 4 < sizeLine; decide, fun i acc H' => Ps H' acc ((nbs p).take i), fun _ _ => .nil, fun D i v acc H' hi hx hD s e pa => ?_, fun D acc H' hD s e pa => ?_⟩
  · tm_at "sx"
    refine ⟨rfl, ?_⟩
    tm_at "sx"
    have hA : SqT K H' a [.int p.1, .int p.2] := sq_of (s _ _ ha)
    have fin : ∀ (b : Addr) (u v' : Int), SqT K H' b [.int u, .int v'] → v = .ref b → (nbs p)[i]? = some (p.1 + u, p.2 + v') → sp_plus K [.ref a, v] H' (fun y H4 => H4 D = some (.lst acc) ∧ Same H H4 ∧ ∀ H5, Chg D (.lst acc) H4 H5 → Same H H5 → Ps H5 (acc ++ [y]) ((nbs p).take (i + 1))) E0 := fun b u v' hb ev hn => by
      subst ev
      refine ⟨a, b, p.1, p.2, u, v', rfl, hA, hb, fun t H2 s2 e2 => ⟨Same.up s2 e, Same.trans s s2, fun H5 c s5 => ?_⟩⟩
      rw [List.take_add_one, hn]
      exact ((pa.same s2).chg c (fun _ z => nomatch z)).app (Ps.one (p := (p.1 + u, p.2 + v')) (c.up e2 (fun z => nomatch z)))
    match i, hi, hx with
    | 0, _, hx => exact fin b1 1 0 (h1 _) (Option.some.inj hx).symm (by simp [nbs])
    | 1, _, hx => exact fin b2 0 1 (h2 _) (Option.some.inj hx).symm (by simp [nbs])
    | 2, _, hx => exact fin b3 (-1) 0 (h3 _) (Option.some.inj hx).symm (by simp [nbs]; omega)
    | 3, _, hx => exact fin b4 0 (-1) (h4 _) (Option.some.inj hx).symm (by simp [nbs]; omega)
  · exact q D acc H' hD s e pa
end
end Cp
set_option Elab.async false
set_option linter.all false
set_option maxRecDepth 100000
set_option maxHeartbeats 2000000
/-! F7: colours of places. -/
namespace Cp
open PySem PySem.Spec PyProof.Rows L2
local macro_rules | `(tactic| tm_at "fact") => `(tactic| first
  | assumption
  | (apply Same.up; · assumption
     tm_at "fact")
  | (apply Same.upS; · assumption
     tm_at "fact")
  | (apply Same.upL; · assumption
     tm_at "fact")
  | (apply sq_of; tm_at "fact")
  | (apply sl_of; tm_at "fact")
  | (apply Chg.up; · assumption
     · tm_at "fact"
     · exact fun z => nomatch z)
  | (apply Chg.upS; · assumption
     · tm_at "fact"
     · exact fun _ z => nomatch z
     · exact fun _ _ z => nomatch z))
local macro_rules | `(tactic| tm_at "same") => `(tactic| first
  | assumption
  | exact Same.refl _
  | (refine Same.trans ?_ ?_; rotate_left; · assumption
     tm_at "same"))
local macro_rules | `(tactic| tm_at "sx1") => `(tactic| with_reducible first
  | refine w_var rfl ?_
  | refine w_c ?_
  | refine w_op ?_
  | refine w_seq ?_
  | refine w_asg ?_
  | refine w_gname ?_
  | refine w_ret ?_
  | refine w_nil ?_
  | refine w_cons ?_
  | refine w_tup ?_
  | refine w_lst ?_
  | refine w_cb ?_
  | refine w_callR ?_
  | refine w_i0 ?_
  | refine w_gcons ?_
  | refine w_gnil ?_
  | refine w_test ?_
  | refine w_not ?_
  | refine w_ifs ?_
  | refine w_if ?_
  | refine w_expr ?_
  | refine w_eqI ?_
  | refine w_neI ?_
  | refine w_eqS ?_
  | refine w_neS ?_
  | refine w_or ?_
  | refine w_and ?_
  | refine w_par3 ?_
  | refine w_andV ?_
  | refine w_notV ?_
  | refine w_lcS ?_
  | refine w_forE ?_
  | refine w_m1 ?_
  | refine w_forL ?_
  | refine w_forR1 ?_
  | refine w_isN ?_
  | refine w_notN ?_
  | refine w_fld ?_
  | refine w_methR ?_
  | refine w_propR ?_
  | refine w_propA ?_
  | refine w_methA ?_
  | refine w_subA ?_
  | refine w_makeS ?_
  | refine w_fldS ?_
  | refine w_chain ?_
  | refine w_orV ?_
  | refine w_next ?_
  | refine w_tB ?_
  | refine w_lcL ?_
  | refine w_lcT ?_
  | refine w_lcR1 ?_
  | refine w_lcR2 ?_
  | refine w_turn ?_
  | refine w_yes ?_
  | refine w_par ?_
  | refine w_uI ?_
  | refine w_un ?_
  | refine w_one ?_)
local macro_rules | `(tactic| tm_at "at") => `(tactic| first | exact rfl | exact atI_nat rfl)
local macro_rules | `(tactic| tm_at "ix") => `(tactic| first
  | (with_reducible apply w_ixT; · tm_at "fact"
     · tm_at "at")
  | (with_reducible apply w_ixL; · tm_at "fact"
     · tm_at "at")
  | (with_reducible apply w_gtup; · tm_at "fact"
     · exact rfl))
local macro_rules | `(tactic| tm_at "sx") => `(tactic| repeat (first | tm_at "sx1" | tm_at "ix"))
abbrev txt (L : List Nat) : Str := ⟨L.toArray⟩
abbrev one1 (c : Nat) : Str := ⟨#[c]⟩
def ixOf (n : T3) (p : Int × Int) : Nat := ((low n p).2 * n.1 + (low n p).1).toNat
def colr (n : T3) (L : List Nat) (p : Int × Int) : Nat := L.getD (ixOf n p) 0
def cellL (n : T3) : List (Int × Int) := SG.rowsFrom n.1.toNat n.2.2.toNat 0
def padd (p q : Int × Int) : Int × Int := (p.1 + q.1, p.2 + q.2)
def keptB (n : T3) (L : List Nat) (s : Int × Int) : Bool := (cellL n).all fun p => colr n L p == colr n L (padd p s)
theorem low_rng {n : T3} (ok : NOk n) (p : Int × Int) : 0 ≤ (low n p).1 ∧ (low n p).1 < n.1 ∧ 0 ≤ (low n p).2 ∧ (low n p).2 < n.2.2 := by
  have h1 := ok.a1
  have h5 := ok.c1
  refine ⟨Int.emod_nonneg _ (by omega), Int.emod_lt_of_pos _ (by omega), ?_, ?_⟩
  · show 0 ≤ p.2 - p.2 / n.2.2 * n.2.2
    have := Int.emod_nonneg p.2 (b := n.2.2) (by omega)
    have e := Int.emod_add_mul_ediv p.2 n.2.2
    rw [Int.mul_comm] at e
    omega
  · show p.2 - p.2 / n.2.2 * n.2.2 < n.2.2
    have := Int.emod_lt_of_pos p.2 (b := n.2.2) (by omega)
    have e := Int.emod_add_mul_ediv p.2 n.2.2
    rw [Int.mul_comm] at e
    omega
theorem ix_rng {n : T3} (ok : NOk n) (p : Int × Int) : ((ixOf n p : Nat) : Int) = (low n p).2 * n.1 + (low n p).1 ∧ (ixOf n p : Int) < n.1 * n.2.2 := by
  obtain ⟨h1, h2, h3, h4⟩ := low_rng ok p
  have h5 : 0 ≤ (low n p).2 * n.1 := Int.mul_nonneg h3 (by omega)
  have e : ((ixOf n p : Nat) : Int) = (low n p).2 * n.1 + (low n p).1 := by
    unfold ixOf; omega
  refine ⟨e, ?_⟩
  rw [e]
  have h6 : ((low n p).2 + 1) * n.1 ≤ n.2.2 * n.1 := Int.mul_le_mul_of_nonneg_right (by omega) (by omega)
  rw [Int.add_mul, Int.one_mul, Int.mul_comm n.2.2] at h6
  omega
/-- a text for the net -/
structure TOk (n : T3) (L : List Nat) : Prop where
  net : NOk n
  len : (L.length : Int) = n.1 * n.2.2
theorem TOk.small {n : T3} {L : List Nat} (h : TOk n L) : L.length ≤ 4000 := by
  have := h.len; have := h.net.sz; omega
theorem one1_inj {c d : Nat} : one1 c = one1 d ↔ c = d := by
  constructor
  · intro h
    have : (#[c] : Array Nat) = #[d] := congrArg Str.cps h
    simpa using this
  · rintro rfl; rfl
section
variable {P : Program} {w : World} {K : PySem.W.Frag} {mg : Str → Option Value} {base : Heap}
def sp_colour_at (K : PySem.W.Frag) : Sp := fun vs H Q _ => ∃ (o a : Addr) (n : T3) (L : List Nat) (p : Int × Int), vs = [.ref o, .str (txt L), .ref a] ∧ NetV K H o n ∧ TOk n L ∧ H a = some (tup2 p) ∧ ∀ H', Same H H' → Q (.str (one1 (colr n L p))) H'
theorem ok_colour_at (T : Tx K mg) : FnR P w K mg base CX0 3 (He.ga K "colour_at") (sp_colour_at K) := by
  refine fnr_of T.f_colour_at sc_colour_at (fun _ _ _ _ _ _ us hl => match us, hl with | [_, _, _], _ => rfl) (fun vs H Q E h => by obtain ⟨_, _, _, _, _, rfl, _⟩ := h; rfl) (fun cdv A outer s H vs Q E hr h => ?_)
  have nd := sc_colour_at.nd
  refine ⟨_, (pss_cons (ps_asg (pe_methR (pv 0) T.c_Net T.m_Net_place_in_cell (ok_Net_place_in_cell T) (hr.mono (by decide)) pass0 (pa_cons (pv 2) pa_nil)) (pg_tup rfl (pgs_cons (pg_name (i := 3) nd rfl (Or.inl rfl)) (pgs_cons (pg_name (i := 4) nd rfl (Or.inl rfl)) pgs_nil))))
    (pss_one (ps_ret (pe_ix ix_str (pv 1) (pe_op op_add (pe_op op_mul (pv 4) (pe_ix ix_tup (pe_propR (pv 0) T.c_Net T.p_Net_numbers (ok_Net_numbers T) (hr.mono (by decide))) pe_int (fun _ _ => rfl))) (pv 3)) (fun _ _ => rfl))))), ?_⟩
  try dsimp only [cxOf]
  obtain ⟨o, a, n, L, p, rfl, hn, ok, ha, q⟩ := h
  obtain ⟨dx, t, ho, ht⟩ := id hn
  tm_at "sx"
  refine ⟨_, _, _, rfl, ho, rfl, ?_⟩
  tm_at "sx"
  refine ⟨o, a, n, p, rfl, hn, ok.net.nw p, ha, fun b H1 s1 e1 => ?_⟩
  tm_at "sx"
  refine ⟨_, _, _, rfl, Same.up s1 ho, ?_⟩
  refine ⟨o, n, rfl, hn.up s1, fun u hu => ?_⟩
  tm_at "sx"
  obtain ⟨h1, h2, h3, h4⟩ := low_rng ok.net p
  have a2 := ok.net.a2
  refine w_iC (.inr ⟨by omega, by omega⟩) ?_
  tm_at "sx"
  obtain ⟨i1, i2⟩ := ix_rng ok.net p
  have hs := ok.small
  have hl := ok.len
  have hlt : ixOf n p < L.length := by omega
  refine ⟨_, _, colr n L p, rfl, rfl, ?_, ?_, q _ s1⟩
  · show L.toArray.size ≤ sizeLine
    have := sizeLine_eq
    rw [List.size_toArray]; omega
  · rw [← i1]
    refine atI_nat ?_
    show L[ixOf n p]? = _
    rw [List.getElem?_eq_getElem hlt]
    unfold colr
    rw [List.getD_eq_getElem?_getD, List.getElem?_eq_getElem hlt]; rfl
def sp_is_kept (K : PySem.W.Frag) : Sp := fun vs H Q _ => ∃ (o a : Addr) (n : T3) (L : List Nat) (sh : Int × Int), vs = [.ref o, .str (txt L), .ref a] ∧ NetV K H o n ∧ TOk n L ∧ H a = some (tup2 sh) ∧ ∀ H', Same H H' → Q (.bl (keptB n L sh)) H'
theorem ok_is_kept (T : Tx K mg) : FnR P w K mg base CX0 4 (He.ga K "is_kept") (sp_is_kept K) := by
  refine fnr_of T.f_is_kept sc_is_kept (fun _ _ _ _ _ _ us hl => match us, hl with | [_, _, _], _ => rfl) (fun vs H Q E h => by obtain ⟨_, _, _, _, _, rfl, _⟩ := h; rfl) (fun cdv A outer s H vs Q E hr h => ?_)
  have nd := sc_is_kept.nd
  refine ⟨_, (pss_cons (ps_for PassesOwn.never rfl (pi_list (pe_methR0 (pv 0) T.c_Net T.m_Net_spots (ok_Net_spots T) (hr.mono (by decide)))) (pg_name (i := 3) nd rfl (Or.inl rfl)) (pss_one (ps_if (pt_cmpR op_ne (pe_callR (ok_colour_at T) (hr.mono (by decide)) rfl T.g_colour_at T.k_colour_at (pa_cons (pv 0) (pa_cons (pv 1) (pa_cons (pv 3) pa_nil)))) (pe_callR (ok_colour_at T) (hr.mono (by decide)) rfl T.g_colour_at T.k_colour_at (pa_cons (pv 0) (pa_cons (pv 1) (pa_cons (pe_callR (ok_plus T) (hr.mono (by decide)) rfl T.g_plus T.k_plus (pa_cons (pv 3) (pa_cons (pv 2) pa_nil))) pa_nil)))) (nomark _)) (pss_one (ps_ret pe_bl)) pss_nil)))
    (pss_one (ps_ret pe_bl))), ?_⟩
  try dsimp only [cxOf]
  obtain ⟨o, a, n, L, sh, rfl, hn, ok, ha, q⟩ := h
  obtain ⟨dx, t, ho, ht⟩ := id hn
  tm_at "sx"
  refine ⟨_, _, _, rfl, ho, rfl, ?_⟩
  tm_at "sx"
  refine ⟨o, n, rfl, hn, ok.net, fun l us H1 s1 e1 p1 => ?_⟩
  refine ⟨l, rfl, ⟨us, sl_of e1⟩, ?_⟩
  refine for_list (xs := us) (fun i σ H' => (∃ o3 : Option V, σ = [some (.ref o), some (.str (txt L)), some (.ref a), o3]) ∧ Same H1 H' ∧ ∀ p ∈ (cellL n).take i, colr n L p = colr n L (padd p sh))
    ⟨⟨none, rfl⟩, Same.refl _, fun p hp => by simp at hp⟩ (fun i σ H' _ hI => Same.upL hI.2.1 (sl_of e1)) (fun i x σ H' hx hI => ?_) (fun σ H' hI => ?_)
  · obtain ⟨⟨o3, rfl⟩, s2, hk⟩ := hI
    obtain ⟨bx, p, rfl, hbx, hpi⟩ := (p1.same s2).at hx
    have s02 := Same.trans s1 s2
    tm_at "sx"
    refine ⟨o, bx, n, L, p, rfl, hn.up s02, ok, hbx, fun H3 s3 => ?_⟩
    tm_at "sx"
    refine ⟨bx, a, p.1, p.2, sh.1, sh.2, rfl, sq_of (Same.up s3 hbx), sq_of (Same.up s3 (Same.up s02 ha)), fun b H4 s4 e4 => ?_⟩
    tm_at "sx"
    refine ⟨o, b, n, L, padd p sh, rfl, hn.up (Same.trans s02 (Same.trans s3 s4)), ok, e4, fun H5 s5 => ?_⟩
    tm_at "sx"
    refine ⟨_, rfl, ?_⟩
    have sA := Same.trans s3 (Same.trans s4 s5)
    by_cases he : colr n L p = colr n L (padd p sh)
    · rw [decide_eq_true (one1_inj.mpr he)]
      refine w_ff ?_
      refine ⟨⟨_, rfl⟩, Same.trans s2 sA, fun r hr => ?_⟩
      rw [List.take_add_one] at hr
      rcases List.mem_append.mp hr with hr | hr
      · exact hk r hr
      · have : (cellL n)[i]? = some p := hpi
        rw [this] at hr
        obtain rfl : r = p := by simpa using hr
        exact he
    · rw [decide_eq_false (fun z => he (one1_inj.mp z))]
      refine w_tt ?_
      tm_at "sx"
      have hf : keptB n L sh = false := by
        unfold keptB
        rw [List.all_eq_false]
        exact ⟨p, List.mem_of_getElem? (show (cellL n)[i]? = some p from hpi), by simpa using he⟩
      have := q H5 (Same.trans s02 sA)
      rw [hf] at this
      exact this
  · obtain ⟨⟨o3, rfl⟩, s2, hk⟩ := hI
    tm_at "sx"
    have hl : us.length = (cellL n).length := p1.len
    rw [hl, List.take_length] at hk
    have ht : keptB n L sh = true := by
      unfold keptB
      rw [List.all_eq_true]
      exact fun p hp => by simpa using hk p hp
    have := q H' (Same.trans s1 s2)
    rw [ht] at this
    exact this
end
end Cp
set_option Elab.async false
set_option linter.all false
set_option maxRecDepth 100000
set_option maxHeartbeats 2000000
/-! F8: the least net. -/
namespace Cp
open PySem PySem.Spec PyProof.Rows L2
local macro_rules | `(tactic| tm_at "fact") => `(tactic| first
  | assumption
  | (apply Same.up; · assumption
     tm_at "fact")
  | (apply Same.upS; · assumption
     tm_at "fact")
  | (apply Same.upL; · assumption
     tm_at "fact")
  | (apply sq_of; tm_at "fact")
  | (apply sl_of; tm_at "fact")
  | (apply Chg.up; · assumption
     · tm_at "fact"
     · exact fun z => nomatch z)
  | (apply Chg.upS; · assumption
     · tm_at "fact"
     · exact fun _ z => nomatch z
     · exact fun _ _ z => nomatch z))
local macro_rules | `(tactic| tm_at "same") => `(tactic| first
  | assumption
  | exact Same.refl _
  | (refine Same.trans ?_ ?_; rotate_left; · assumption
     tm_at "same"))
local macro_rules | `(tactic| tm_at "sx1") => `(tactic| with_reducible first
  | refine w_var rfl ?_
  | refine w_c ?_
  | refine w_op ?_
  | refine w_seq ?_
  | refine w_asg ?_
  | refine w_gname ?_
  | refine w_ret ?_
  | refine w_nil ?_
  | refine w_cons ?_
  | refine w_tup ?_
  | refine w_lst ?_
  | refine w_cb ?_
  | refine w_callR ?_
  | refine w_i0 ?_
  | refine w_gcons ?_
  | refine w_gnil ?_
  | refine w_test ?_
  | refine w_not ?_
  | refine w_ifs ?_
  | refine w_if ?_
  | refine w_expr ?_
  | refine w_eqI ?_
  | refine w_neI ?_
  | refine w_eqS ?_
  | refine w_neS ?_
  | refine w_or ?_
  | refine w_and ?_
  | refine w_par3 ?_
  | refine w_andV ?_
  | refine w_notV ?_
  | refine w_lcS ?_
  | refine w_forE ?_
  | refine w_m1 ?_
  | refine w_forL ?_
  | refine w_forR1 ?_
  | refine w_isN ?_
  | refine w_notN ?_
  | refine w_fld ?_
  | refine w_methR ?_
  | refine w_propR ?_
  | refine w_propA ?_
  | refine w_methA ?_
  | refine w_subA ?_
  | refine w_makeS ?_
  | refine w_fldS ?_
  | refine w_chain ?_
  | refine w_orV ?_
  | refine w_next ?_
  | refine w_tB ?_
  | refine w_lcL ?_
  | refine w_lcT ?_
  | refine w_lcR1 ?_
  | refine w_lcR2 ?_
  | refine w_turn ?_
  | refine w_yes ?_
  | refine w_par ?_
  | refine w_uI ?_
  | refine w_un ?_
  | refine w_one ?_)
local macro_rules | `(tactic| tm_at "at") => `(tactic| first | exact rfl | exact atI_nat rfl)
local macro_rules | `(tactic| tm_at "ix") => `(tactic| first
  | (with_reducible apply w_ixT; · tm_at "fact"
     · tm_at "at")
  | (with_reducible apply w_ixL; · tm_at "fact"
     · tm_at "at")
  | (with_reducible apply w_gtup; · tm_at "fact"
     · exact rfl))
local macro_rules | `(tactic| tm_at "sx") => `(tactic| repeat (first | tm_at "sx1" | tm_at "ix"))
theorem map_get {α β : Type} {f : α → β} {xs : List α} {i : Nat} {v : β} (h : (xs.map f)[i]? = some v) : ∃ d, xs[i]? = some d ∧ f d = v := by
  rw [List.getElem?_map] at h
  cases e : xs[i]? with
  | none => rw [e] at h; cases h
  | some d => rw [e] at h; exact ⟨d, rfl, Option.some.inj h⟩
theorem first_at {α β : Type} {f : α → Option β} {xs : List α} {i : Nat} {d : α} {v : β} (h : xs[i]? = some d) (hf : f d = some v) (hn : ∀ x ∈ xs.take i, f x = none) : xs.findSome? f = some v := by
  rw [List.findSome?_eq_some_iff]
  obtain ⟨hi, e⟩ := List.getElem?_eq_some_iff.mp h
  refine ⟨xs.take i, d, xs.drop (i + 1), ?_, hf, hn⟩
  rw [← e, ← List.drop_eq_getElem_cons hi, List.take_append_drop]
def widthL (n : T3) (L : List Nat) : List Int := (divs n.1.toNat).filter fun d => keptB n L (d, 0)
def rowOf (n : T3) (L : List Nat) (W : Int) (rows : Int) : Option T3 := (List.range W.toNat).findSome? fun (right : Nat) => if keptB n L ((right : Int), rows) = true then some (W, (right : Int), rows) else none
def searchOf (n : T3) (L : List Nat) (W : Int) : Option T3 := (divs n.2.2.toNat).findSome? fun rows => rowOf n L W rows
/-- what kept_net tells -/
def KeptR (n : T3) (L : List Nat) (m : T3) : Prop := ∃ W, (widthL n L)[0]? = some W ∧ (searchOf n L W = some m ∨ searchOf n L W = none ∧ m = n)
theorem kept_wide {n : T3} (L : List Nat) : keptB n L (n.1, 0) = true := by
  unfold keptB
  rw [List.all_eq_true]
  intro p _
  have : low n (padd p (n.1, 0)) = low n p := by
    unfold low padd
    refine Prod.ext ?_ ?_
    · show (p.1 + n.1 - (p.2 + 0) / n.2.2 * n.2.1) % n.1 = (p.1 - p.2 / n.2.2 * n.2.1) % n.1
      rw [Int.add_zero, show p.1 + n.1 - p.2 / n.2.2 * n.2.1 = p.1 - p.2 / n.2.2 * n.2.1 + n.1 by omega, Int.add_emod_right]
    · show p.2 + 0 - (p.2 + 0) / n.2.2 * n.2.2 = _
      rw [Int.add_zero]
  unfold colr ixOf
  rw [this]
  simp
theorem divs_mem {n : Nat} {d : Int} (h : d ∈ divs n) : 1 ≤ d ∧ d ≤ n := by
  unfold divs at h
  obtain ⟨k, hk, rfl⟩ := List.mem_map.mp h
  have := List.mem_range'_1.mp (List.mem_filter.mp hk).1
  omega
theorem divs_self {n : Nat} (h : 1 ≤ n) : (n : Int) ∈ divs n := by
  unfold divs
  exact List.mem_map.mpr ⟨n, List.mem_filter.mpr ⟨List.mem_range'_1.mpr ⟨h, by omega⟩, by simp⟩, rfl⟩
theorem widthL_ne {n : T3} (L : List Nat) (h : 1 ≤ n.1) : ∃ W, (widthL n L)[0]? = some W ∧ 1 ≤ W ∧ W ≤ n.1 := by
  have hm : n.1 ∈ widthL n L := by
    refine List.mem_filter.mpr ⟨?_, kept_wide L⟩
    have := divs_self (n := n.1.toNat) (by omega)
    rwa [show ((n.1.toNat : Nat) : Int) = n.1 by omega] at this
  cases e : widthL n L with
  | nil => rw [e] at hm; cases hm
  | cons W r =>
    have hW : W ∈ widthL n L := by rw [e]; exact List.mem_cons_self
    have := divs_mem (List.mem_filter.mp hW).1
    exact ⟨W, rfl, this.1, by omega⟩
section
variable {P : Program} {w : World} {K : PySem.W.Frag} {mg : Str → Option Value} {base : Heap}
def sp_kept_net (K : PySem.W.Frag) : Sp := fun vs H Q _ => ∃ (o : Addr) (n : T3) (L : List Nat), vs = [.ref o, .str (txt L)] ∧ NetV K H o n ∧ TOk n L ∧ ∀ o' m H', Same H H' → NetV K H' o' m → NOk m → KeptR n L m → Q (.ref o') H'
theorem ok_kept_net (T : Tx K mg) : FnR P w K mg base CX0 5 (He.ga K "kept_net") (sp_kept_net K) := by
  refine fnr_of T.f_kept_net sc_kept_net (fun _ _ _ _ _ _ us hl => match us, hl with | [_, _], _ => rfl) (fun vs H Q E h => by obtain ⟨_, _, _, rfl, _⟩ := h; rfl) (fun cdv A outer s H vs Q E hr h => ?_)
  have nd := sc_kept_net.nd
  refine ⟨_, (pss_cons (ps_asg (pe_propR (pv 0) T.c_Net T.p_Net_numbers (ok_Net_numbers T) (hr.mono (by decide))) (pg_tup rfl (pgs_cons (pg_name (i := 2) nd rfl (Or.inl rfl)) (pgs_cons (pg_name (i := 3) nd rfl (Or.inl rfl)) (pgs_cons (pg_name (i := 4) nd rfl (Or.inl rfl)) pgs_nil)))))
    (pss_cons (ps_set (i := 5) nd rfl (Or.inl rfl) (pe_ix ix_list (pe_lcL (own := [("number", 8)]) (g := (gName 8)) rfl nd (pe_callR (ok_divisors T) (hr.mono (by decide)) rfl T.g_divisors T.k_divisors (pa_cons (pv 2) pa_nil)) (blkOk_by (N := Nkept_net) (sc := defScope skept_net) (by decide +kernel)) (fun _ _ _ _ _ => (pg_name (i := 8) nd rfl (Or.inl rfl))) (fun _ _ _ _ _ => (pts_one (pt_val (pe_callR (ok_is_kept T) (hr.mono (by decide)) rfl T.g_is_kept T.k_is_kept (pa_cons (pv 0) (pa_cons (pv 1) (pa_cons (pe_tupS (pa_cons (pv 8) (pa_cons pe_int pa_nil))) pa_nil))))))) (fun _ _ _ _ _ => (pv 8))) pe_int (fun _ _ => rfl)))
    (pss_cons (ps_for PassesOwn.never rfl (pi_list (pe_callR (ok_divisors T) (hr.mono (by decide)) rfl T.g_divisors T.k_divisors (pa_cons (pv 4) pa_nil))) (pg_name (i := 6) nd rfl (Or.inl rfl)) (pss_one (ps_for PassesOwn.never rfl (pi_range1 rfl T.b_range (pa_cons (pv 5) pa_nil)) (pg_name (i := 7) nd rfl (Or.inl rfl)) (pss_one (ps_if (pt_val (pe_callR (ok_is_kept T) (hr.mono (by decide)) rfl T.g_is_kept T.k_is_kept (pa_cons (pv 0) (pa_cons (pv 1) (pa_cons (pe_tupS (pa_cons (pv 7) (pa_cons (pv 6) pa_nil))) pa_nil))))) (pss_one (ps_ret (pe_makeS T.mk_Net (ok_Net___init__ T) (hr.mono (by decide)) rfl T.g_Net (pa_cons (pv 5) (pa_cons (pv 7) (pa_cons (pv 6) pa_nil)))))) pss_nil)))))
    (pss_one (ps_ret (pv 0)))))), ?_⟩
  try dsimp only [cxOf]
  obtain ⟨o, n, L, rfl, hn, ok, q⟩ := h
  obtain ⟨dx, t, ho, ht⟩ := id hn
  have a1 := ok.net.a1
  have a2 := ok.net.a2
  have c1 := ok.net.c1
  have c2 := ok.net.c2
  have hsl := sizeLine_eq
  tm_at "sx"
  refine ⟨_, _, _, rfl, ho, ?_⟩
  refine ⟨o, n, rfl, hn, fun u hu => ?_⟩
  tm_at "sx"
  refine ⟨n.1.toNat, by rw [show ((n.1.toNat : Nat) : Int) = n.1 by omega], by omega, fun l H1 s1 e1 => ?_⟩
  refine ⟨_, _, rfl, sl_of e1, ?_, fun i acc H' => acc = ((((divs n.1.toNat).take i).filter fun d => keptB n L (d, 0)).map V.int), fun _ _ => by simp, fun D i v acc H' hi hx hD s2 e p => ?_, fun D acc H' hD s2 e p => ?_⟩
  · rw [List.length_map]
    unfold divs
    rw [List.length_map]
    have := List.length_filter_le (fun d => n.1.toNat % d == 0) (List.range' 1 n.1.toNat)
    rw [List.length_range'] at this
    omega
  · subst p
    obtain ⟨d, hd, rfl⟩ := map_get (show (List.map V.int (divs n.1.toNat))[i]? = some v from hx)
    tm_at "sx"
    refine ⟨rfl, ?_⟩
    tm_at "sx"
    refine ⟨by show 2 ≤ sizeLine; decide, fun b H3 nb s3 e3 => ?_⟩
    tm_at "sx"
    refine ⟨o, b, n, L, (d, 0), rfl, hn.up (Same.trans s1 (Same.trans s2 s3)), ok, e3, fun H4 s4 => ⟨_, rfl, ?_⟩⟩
    have hstep : ((((divs n.1.toNat).take (i + 1)).filter fun d => keptB n L (d, 0)).map V.int) = ((((divs n.1.toNat).take i).filter fun d => keptB n L (d, 0)).map V.int) ++ (if keptB n L (d, 0) = true then [V.int d] else []) := by
      rw [List.take_add_one, hd, List.filter_append, List.map_append]
      congr 1
      by_cases hk : keptB n L (d, 0) = true <;> simp [hk]
    have sA := Same.trans s3 s4
    by_cases hk : keptB n L (d, 0) = true
    · rw [if_pos hk] at hstep
      rw [hk]
      refine w_tt ?_
      tm_at "sx"
      exact ⟨Same.up sA e, Same.trans s2 sA, fun H5 c s5 => hstep.symm⟩
    · rw [if_neg hk, List.append_nil] at hstep
      rw [Bool.not_eq_true] at hk
      rw [hk]
      exact w_ff ⟨Same.up sA e, Same.trans s2 sA, hstep.symm⟩
  · subst p
    rw [List.length_map, List.take_length] at e
    obtain ⟨W, hW, W1, W2⟩ := widthL_ne L a1
    have s02 := Same.trans s1 s2
    tm_at "sx"
    refine w_ixL (sl_of e) (atI_nat (j := 0) (by rw [List.getElem?_map]; show ((widthL n L)[0]?).map V.int = _; rw [hW]; rfl)) ?_
    tm_at "sx"
    refine ⟨n.2.2.toNat, by rw [show ((n.2.2.toNat : Nat) : Int) = n.2.2 by omega], by omega, fun l2 H3 s3 e3 => ?_⟩
    have s03 := Same.trans s02 s3
    refine ⟨l2, rfl, ⟨_, sl_of e3⟩, ?_⟩
    refine for_list (xs := (divs n.2.2.toNat).map V.int) (fun i σ H' => (∃ o7 o8 o5 : Option V, σ = [some (.ref o), some (.str (txt L)), some (.int n.1), some (.int n.2.1), some (.int n.2.2), some (.int W), o7, o8, o5]) ∧ Same H3 H' ∧ ∀ rows ∈ (divs n.2.2.toNat).take i, rowOf n L W rows = none)
      ⟨⟨none, none, none, rfl⟩, Same.refl _, fun p hp => by simp at hp⟩ (fun i σ H' _ hI => Same.upL hI.2.1 (sl_of e3)) (fun i x σ H' hx hI => ?_) (fun σ H' hI => ?_)
    · obtain ⟨⟨o7, o8, o5, rfl⟩, s4, hno⟩ := hI
      obtain ⟨rows, hrows, rfl⟩ := map_get hx
      have hr := divs_mem (List.mem_of_getElem? hrows)
      tm_at "sx"
      refine ⟨W, rfl, by omega, by omega, ?_⟩
      refine for_range (fun j σ H' => (∃ o8 o5 : Option V, σ = [some (.ref o), some (.str (txt L)), some (.int n.1), some (.int n.2.1), some (.int n.2.2), some (.int W), some (.int rows), o8, o5]) ∧ Same H3 H' ∧ ∀ right, right < j → keptB n L ((right : Int), rows) = false)
        ⟨⟨o8, o5, rfl⟩, s4, fun r hr => by omega⟩ (fun j σ H4 hj hJ => ?_) (fun σ H4 hJ => ?_)
      · obtain ⟨⟨o8, o5, rfl⟩, s5, hnk⟩ := hJ
        tm_at "sx"
        refine ⟨by show 2 ≤ sizeLine; decide, fun b H5 nb s6 e6 => ?_⟩
        tm_at "sx"
        rw [Int.zero_add] at e6
        have s06 := Same.trans s03 (Same.trans s5 s6)
        refine ⟨o, b, n, L, ((j : Int), rows), rfl, hn.up s06, ok, e6, fun H6 s7 => ⟨_, rfl, ?_⟩⟩
        have s07 := Same.trans s06 s7
        by_cases hk : keptB n L ((j : Int), rows) = true
        · rw [hk]
          refine w_tt ?_
          have hfound : rowOf n L W rows = some (W, (j : Int), rows) := by
            unfold rowOf
            refine first_at (i := j) (d := j) (List.getElem?_range (by omega)) (by rw [if_pos hk]) fun x hx => ?_
            rw [List.take_range, List.mem_range] at hx
            rw [if_neg]
            rw [hnk x (by omega)]
            exact Bool.false_ne_true
          tm_at "sx"
          intro x dx' H7 nx ndx hne s8 e8
          have ha : W * rows ≤ n.1 * n.2.2 := by
            calc W * rows ≤ n.1 * rows := Int.mul_le_mul_of_nonneg_right W2 (by omega)
              _ ≤ n.1 * n.2.2 := Int.mul_le_mul_of_nonneg_left (by omega) (by omega)
          have hz := ok.net.sz
          have mok : NOk (W, (j : Int), rows) := ⟨W1, by show (0 : Int) ≤ (j : Int); omega, by show (j : Int) < W; omega, hr.1, by show W * rows ≤ 4000; omega⟩
          refine ⟨x, dx', (W, (j : Int), rows), by rw [Int.zero_add], e8, mok.nv, fun H8 k8 n8 => ⟨rfl, ?_⟩⟩
          refine q x _ H8 (fun b u e => k8 b u (fun z => ?_) (s8 _ _ (Same.trans s07 (Same.refl _) _ _ e))) n8 mok ⟨W, hW, .inl ?_⟩
          · subst z
            rw [Same.up s07 e] at nx
            cases nx
          · unfold searchOf
            exact first_at hrows hfound hno
        · rw [Bool.not_eq_true] at hk
          rw [hk]
          refine w_ff ⟨⟨_, _, rfl⟩, Same.trans s5 (Same.trans s6 s7), fun r hr => ?_⟩
          rcases Nat.lt_succ_iff_lt_or_eq.mp hr with z | z
          · exact hnk r z
          · rw [z]; exact hk
      · obtain ⟨⟨o8, o5, rfl⟩, s5, hnk⟩ := hJ
        refine ⟨⟨_, _, _, rfl⟩, s5, fun r hr => ?_⟩
        rw [List.take_add_one, hrows] at hr
        rcases List.mem_append.mp hr with hr | hr
        · exact hno r hr
        · obtain rfl : r = rows := by simpa using hr
          unfold rowOf
          rw [List.findSome?_eq_none_iff]
          intro k hk
          rw [hnk k (by simpa using hk)]
          rfl
    · obtain ⟨⟨o7, o8, o5, rfl⟩, s4, hno⟩ := hI
      rw [List.length_map, List.take_length] at hno
      tm_at "sx"
      refine q o n H' (Same.trans s03 s4) (hn.up (Same.trans s03 s4)) ok.net ⟨W, hW, .inr ⟨?_, rfl⟩⟩
      unfold searchOf
      rw [List.findSome?_eq_none_iff]
      exact hno
end
end Cp
set_option Elab.async false
set_option linter.all false
set_option maxRecDepth 100000
set_option maxHeartbeats 2000000
/-! F9: the least cell, carpets. -/
namespace Cp
open PySem PySem.Spec PyProof.Rows L2
local macro_rules | `(tactic| tm_at "fact") => `(tactic| first
  | assumption
  | (apply Same.up; · assumption
     tm_at "fact")
  | (apply Same.upS; · assumption
     tm_at "fact")
  | (apply Same.upL; · assumption
     tm_at "fact")
  | (apply sq_of; tm_at "fact")
  | (apply sl_of; tm_at "fact")
  | (apply Chg.up; · assumption
     · tm_at "fact"
     · exact fun z => nomatch z)
  | (apply Chg.upS; · assumption
     · tm_at "fact"
     · exact fun _ z => nomatch z
     · exact fun _ _ z => nomatch z))
local macro_rules | `(tactic| tm_at "same") => `(tactic| first
  | assumption
  | exact Same.refl _
  | (refine Same.trans ?_ ?_; rotate_left; · assumption
     tm_at "same"))
local macro_rules | `(tactic| tm_at "sx1") => `(tactic| with_reducible first
  | refine w_var rfl ?_
  | refine w_c ?_
  | refine w_op ?_
  | refine w_seq ?_
  | refine w_asg ?_
  | refine w_gname ?_
  | refine w_ret ?_
  | refine w_nil ?_
  | refine w_cons ?_
  | refine w_tup ?_
  | refine w_lst ?_
  | refine w_cb ?_
  | refine w_callR ?_
  | refine w_i0 ?_
  | refine w_gcons ?_
  | refine w_gnil ?_
  | refine w_test ?_
  | refine w_not ?_
  | refine w_ifs ?_
  | refine w_if ?_
  | refine w_expr ?_
  | refine w_eqI ?_
  | refine w_neI ?_
  | refine w_eqS ?_
  | refine w_neS ?_
  | refine w_or ?_
  | refine w_and ?_
  | refine w_par3 ?_
  | refine w_andV ?_
  | refine w_notV ?_
  | refine w_lcS ?_
  | refine w_forE ?_
  | refine w_m1 ?_
  | refine w_forL ?_
  | refine w_forR1 ?_
  | refine w_isN ?_
  | refine w_notN ?_
  | refine w_fld ?_
  | refine w_methR ?_
  | refine w_propR ?_
  | refine w_propA ?_
  | refine w_methA ?_
  | refine w_subA ?_
  | refine w_makeS ?_
  | refine w_fldS ?_
  | refine w_chain ?_
  | refine w_orV ?_
  | refine w_next ?_
  | refine w_tB ?_
  | refine w_lcL ?_
  | refine w_lcT ?_
  | refine w_lcR1 ?_
  | refine w_lcR2 ?_
  | refine w_turn ?_
  | refine w_yes ?_
  | refine w_par ?_
  | refine w_uI ?_
  | refine w_un ?_
  | refine w_one ?_)
local macro_rules | `(tactic| tm_at "at") => `(tactic| first | exact rfl | exact atI_nat rfl)
local macro_rules | `(tactic| tm_at "ix") => `(tactic| first
  | (with_reducible apply w_ixT; · tm_at "fact"
     · tm_at "at")
  | (with_reducible apply w_ixL; · tm_at "fact"
     · tm_at "at")
  | (with_reducible apply w_gtup; · tm_at "fact"
     · exact rfl))
local macro_rules | `(tactic| tm_at "sx") => `(tactic| repeat (first | tm_at "sx1" | tm_at "ix"))
theorem joinL0 : ∀ cs : List Nat, TL.joinL [] (cs.map fun c => [c]) = cs
  | [] => rfl
  | [c] => rfl
  | c :: d :: r => by
    show [c] ++ ([] ++ TL.joinL [] ((d :: r).map fun c => [c])) = _
    rw [joinL0 (d :: r)]; rfl
theorem join0 (cs : List Nat) : Txt.join (Str.ofString "") (cs.map one1) = txt cs := by
  have e := SX.join_S [] (cs.map fun c => [c])
  rw [List.map_map, joinL0] at e
  exact e
theorem sum_ones (cs : List Nat) : ((cs.map one1).map (·.length)).sum = cs.length := by
  induction cs with
  | nil => rfl
  | cons c r ih => rw [List.map_cons, List.map_cons, List.sum_cons, ih, List.length_cons]; show 1 + r.length = _; omega
theorem join_len (cs : List Nat) (h : cs.length ≤ 16777216) : ((cs.map one1).map (·.length)).sum + (cs.map one1).length * (Str.ofString "").length ≤ 16777216 := by
  rw [sum_ones]; show cs.length + (cs.map one1).length * 0 ≤ _; rw [Nat.mul_zero]; exact h
theorem join_sl {K : PySem.W.Frag} {H : Hp} {p : Addr} {cs : List Nat} (h : SqL K H p (cs.map fun c => V.str (one1 c))) : SqL K H p ((cs.map one1).map V.str) := by rw [List.map_map]; exact h
/-- the text of a smaller cell -/
def reText (n : T3) (L : List Nat) (m : T3) : List Nat := (cellL m).map (colr n L)
theorem cellL_len (n : T3) : (cellL n).length = n.2.2.toNat * n.1.toNat := by unfold cellL; rw [← rowsTo_all, rowsTo_len]
theorem NOk.nat {n : T3} (h : NOk n) : ((n.2.2.toNat * n.1.toNat : Nat) : Int) = n.1 * n.2.2 := by
  have := h.a1; have := h.c1
  rw [Int.natCast_mul, show ((n.2.2.toNat : Nat) : Int) = n.2.2 by omega, show ((n.1.toNat : Nat) : Int) = n.1 by omega, Int.mul_comm]
theorem reText_ok (n : T3) (L : List Nat) {m : T3} (h : NOk m) : TOk m (reText n L m) := ⟨h, by unfold reText; rw [List.length_map, cellL_len, h.nat]⟩
/-- a carpet of the class C -/
def CarV (K : PySem.W.Frag) (H : Hp) (o : Addr) (C : Addr) (n : T3) (L : List Nat) : Prop := ∃ dx nt, H o = some (.ins C dx [("own_net", .ref nt), ("own_text", .str (txt L))]) ∧ NetV K H nt n ∧ TOk n L
theorem CarV.up {K : PySem.W.Frag} {H H' : Hp} {o C : Addr} {n : T3} {L : List Nat} (s : Same H H') (h : CarV K H o C n L) : CarV K H' o C n L := let ⟨dx, nt, h1, h2, h3⟩ := h; ⟨dx, nt, s _ _ h1, h2.up s, h3⟩
section
variable {P : Program} {w : World} {K : PySem.W.Frag} {mg : Str → Option Value} {base : Heap}
def sp_least_cell (K : PySem.W.Frag) : Sp := fun vs H Q _ => ∃ (o : Addr) (n : T3) (L : List Nat), vs = [.ref o, .str (txt L)] ∧ NetV K H o n ∧ TOk n L ∧
  ∀ t o' m H', Same H H' → H' t = some (.tup [.ref o', .str (txt (reText n L m))]) → NetV K H' o' m → NOk m → KeptR n L m → Q (.ref t) H'
theorem ok_least_cell (T : Tx K mg) : FnR P w K mg base CX0 6 (He.ga K "least_cell") (sp_least_cell K) := by
  refine fnr_of T.f_least_cell sc_least_cell (fun _ _ _ _ _ _ us hl => match us, hl with | [_, _], _ => rfl) (fun vs H Q E h => by obtain ⟨_, _, _, rfl, _⟩ := h; rfl) (fun cdv A outer s H vs Q E hr h => ?_)
  have nd := sc_least_cell.nd
  refine ⟨_, (pss_cons (ps_set (i := 2) nd rfl (Or.inl rfl) (pe_callR (ok_kept_net T) (hr.mono (by decide)) rfl T.g_kept_net T.k_kept_net (pa_cons (pv 0) (pa_cons (pv 1) pa_nil))))
    (pss_one (ps_ret (pe_tupS (pa_cons (pv 2) (pa_cons (pe_join pe_str (pe_lcL (own := [("place", 3)]) (g := (gName 3)) rfl nd (pe_methR0 (pv 2) T.c_Net T.m_Net_spots (ok_Net_spots T) (hr.mono (by decide))) (blkOk_by (N := Nleast_cell) (sc := defScope sleast_cell) (by decide +kernel)) (fun _ _ _ _ _ => (pg_name (i := 3) nd rfl (Or.inl rfl))) (fun _ _ _ _ _ => pts_nil) (fun _ _ _ _ _ => (pe_callR (ok_colour_at T) (hr.mono (by decide)) rfl T.g_colour_at T.k_colour_at (pa_cons (pv 0) (pa_cons (pv 1) (pa_cons (pv 3) pa_nil))))))) pa_nil)))))), ?_⟩
  try dsimp only [cxOf]
  obtain ⟨o, n, L, rfl, hn, ok, q⟩ := h
  have hsl := sizeLine_eq
  tm_at "sx"
  refine ⟨o, n, L, rfl, hn, ok, fun o' m H1 s1 hm mok hk => ?_⟩
  tm_at "sx"
  refine ⟨⟨_, rfl⟩, ?_⟩
  tm_at "sx"
  obtain ⟨dx, t, ho', ht⟩ := id hm
  refine ⟨_, _, _, rfl, ho', rfl, ?_⟩
  tm_at "sx"
  refine ⟨o', m, rfl, hm, mok, fun l us H2 s2 e2 p2 => ?_⟩
  have hul : us.length = (cellL m).length := p2.len
  have hnat := mok.nat
  have hsz := mok.sz
  refine ⟨_, _, rfl, sl_of e2, by rw [hul, cellL_len]; omega, fun i acc H' => acc = (((cellL m).take i).map fun p => V.str (one1 (colr n L p))), fun _ _ => rfl, fun D i v acc H' hi hx hD s3 e p => ?_, fun D acc H' hD s3 e p => ?_⟩
  · subst p
    obtain ⟨bx, p, rfl, hbx, hpi⟩ := (p2.same s3).at hx
    tm_at "sx"
    refine ⟨rfl, ?_⟩
    tm_at "sx"
    refine ⟨o, bx, n, L, p, rfl, hn.up (Same.trans s1 (Same.trans s2 s3)), ok, hbx, fun H4 s4 => ⟨Same.up s4 e, Same.trans s3 s4, fun H5 c s5 => ?_⟩⟩
    rw [List.take_add_one, show (cellL m)[i]? = some p from hpi, List.map_append]; rfl
  · subst p
    rw [hul, List.take_length] at e
    refine ⟨_, D, (reText n L m).map one1, rfl, rfl, .inl (join_sl (sl_of (by unfold reText; rw [List.map_map]; exact e))), join_len _ (by rw [(show (reText n L m).length = (cellL m).length from List.length_map ..), cellL_len]; omega), ?_⟩
    rw [join0]
    tm_at "sx"
    refine ⟨by show 2 ≤ sizeLine; decide, fun t' H4 nt s4 e4 => ?_⟩
    exact q t' o' m H4 (Same.trans s1 (Same.trans s2 (Same.trans s3 s4))) e4 (hm.up (Same.trans s2 (Same.trans s3 s4))) mok hk
def sp_Woven___init__ (K : PySem.W.Frag) : Sp := fun vs H Q _ => ∃ (o C dx b : Addr) (n : T3) (L : List Nat), vs = [.ref o, .ref b, .str (txt L)] ∧ CarC K C ∧ H o = some (.ins C dx []) ∧ NetV K H b n ∧ TOk n L ∧
  ∀ m H', (∀ a u, a ≠ o → H a = some u → H' a = some u) → CarV K H' o C m (reText n L m) → KeptR n L m → Q .non H'
theorem ok_Woven___init__ (T : Tx K mg) : FnR P w K mg base CX0 7 (He.ma K (He.ga K "Woven") "__init__") (sp_Woven___init__ K) := by
  refine fnr_of T.f_Woven___init__ sc_Woven___init__ (fun _ _ _ _ _ _ us hl => match us, hl with | [_, _, _], _ => rfl) (fun vs H Q E h => by obtain ⟨_, _, _, _, _, _, rfl, _⟩ := h; rfl) (fun cdv A outer s H vs Q E hr h => ?_)
  have nd := sc_Woven___init__.nd
  refine ⟨_, (pss_one (ps_asg (pe_callR (ok_least_cell T) (hr.mono (by decide)) rfl T.g_least_cell T.k_least_cell (pa_cons (pv 1) (pa_cons (pv 2) pa_nil))) (pg_tup rfl (pgs_cons (pg_attrS (pv 0)) (pgs_cons (pg_attrS (pv 0)) pgs_nil))))), ?_⟩
  try dsimp only [cxOf]
  obtain ⟨o, C, dx, b, n, L, rfl, hC, ho, hn, ok, q⟩ := h
  obtain ⟨c1, n1, n2⟩ := T.carC hC
  tm_at "sx"
  refine ⟨b, n, L, rfl, hn, ok, fun t o' m H1 s1 e1 hm mok hk => ?_⟩
  tm_at "sx"
  refine ⟨_, rfl, o, C, dx, [], rfl, s1 _ _ ho, c1, n1, by decide, fun H2 k2 e2 => ?_⟩
  tm_at "sx"
  refine ⟨_, rfl, o, C, dx, _, rfl, e2, c1, n2, by show 1 < 1000; decide, fun H3 k3 e3 => ?_⟩
  tm_at "sx"
  have hne : ∀ {a : Addr} {u : HO}, H1 a = some u → a ≠ o → H3 a = some u := fun {a u} h z => k3.2 a u z (k2.2 a u z h)
  refine q m H3 (fun a u z h => hne (s1 _ _ h) z) ⟨dx, o', e3, ?_, reText_ok n L mok⟩ hk
  obtain ⟨dx', t', h1, h2⟩ := hm
  have ho1 := s1 _ _ ho
  refine ⟨dx', t', hne h1 (fun z => ?_), hne h2 (ne_of h2 ho1 (fun z => nomatch z))⟩
  subst z
  rw [ho1] at h1
  cases h1
end
end Cp
set_option Elab.async false
set_option linter.all false
/-! D1: the search of a part, in plain Lean. -/
namespace Cp
open PySem
abbrev Pt : Type := Int × Int
def psub (p q : Pt) : Pt := (p.1 - q.1, p.2 - q.2)
def fnd (M : List (Pt × Pt)) (k : Pt) : Option Pt := (M.find? fun e => decide (e.1 = k)).map (·.2)
theorem fnd_mem {M : List (Pt × Pt)} {k r : Pt} (h : fnd M k = some r) : (k, r) ∈ M := by
  unfold fnd at h
  obtain ⟨e, he, rfl⟩ := Option.map_eq_some_iff.mp h
  have h1 := List.mem_of_find?_eq_some he
  have h2 : e.1 = k := of_decide_eq_true (List.find?_some (p := fun e : Pt × Pt => decide (e.1 = k)) he)
  rw [← h2]; exact h1
theorem fnd_none {M : List (Pt × Pt)} {k : Pt} (h : fnd M k = none) : k ∉ M.map (·.1) := by
  unfold fnd at h
  rw [Option.map_eq_none_iff, List.find?_eq_none] at h
  intro z
  obtain ⟨e, he, rfl⟩ := List.mem_map.mp z
  exact h e he (decide_eq_true rfl)
theorem fnd_of_mem {M : List (Pt × Pt)} {k : Pt} (h : k ∈ M.map (·.1)) : ∃ r, fnd M k = some r := by
  cases e : fnd M k with
  | some r => exact ⟨r, rfl⟩
  | none => exact absurd h (fnd_none e)
theorem fnd_app {M : List (Pt × Pt)} {k r : Pt} (l : List (Pt × Pt)) (h : fnd M k = some r) : fnd (M ++ l) k = some r := by
  unfold fnd at *
  obtain ⟨e, he, rfl⟩ := Option.map_eq_some_iff.mp h
  rw [List.find?_append, he]; rfl
theorem fnd_new {M : List (Pt × Pt)} {k r : Pt} (h : fnd M k = none) : fnd (M ++ [(k, r)]) k = some r := by
  unfold fnd at *
  rw [Option.map_eq_none_iff] at h
  rw [List.find?_append, h]
  simp
theorem fnd_nodup {M : List (Pt × Pt)} (nd : (M.map (·.1)).Nodup) {k r : Pt} (h : (k, r) ∈ M) : fnd M k = some r := by
  induction M with
  | nil => cases h
  | cons e M ih =>
    rw [List.map_cons, List.nodup_cons] at nd
    rcases List.mem_cons.mp h with z | z
    · subst z; simp [fnd]
    · have ne : e.1 ≠ k := fun z2 => nd.1 (by rw [z2]; exact List.mem_map.mpr ⟨_, z, rfl⟩)
      have := ih nd.2 z
      unfold fnd at *
      rw [List.find?_cons_of_neg (by simpa using ne)]
      exact this
/-- the state of the search -/
structure DS where
  M : List (Pt × Pt)
  W : List Pt
  S : List Pt
  b : Nat
def dn (n : T3) (L : List Nat) (c : Nat) (st : DS) (q : Pt) : DS :=
  if colr n L q ≠ c then { st with b := st.b + 1 }
  else match fnd st.M (low n q) with
    | none => { st with M := st.M ++ [(low n q, q)], W := st.W ++ [q] }
    | some r => if r ≠ q then { st with S := st.S ++ [psub q r] } else st
/-- a path of one colour -/
inductive Conn (f : Pt → Nat) (p : Pt) : Pt → Prop
  | refl : Conn f p p
  | step {q r : Pt} : Conn f p q → r ∈ nbs q → f r = f q → Conn f p r
def Met (n : T3) (st : DS) (q : Pt) : Prop := ∃ r, fnd st.M (low n q) = some r ∧ (q = r ∨ psub q r ∈ st.S)
structure DI (n : T3) (L : List Nat) (c : Nat) (p0 : Pt) (Dn T : List Pt) (st : DS) : Prop where
  perm : (Dn ++ st.W).Perm (st.M.map (·.2))
  nod : (st.M.map (·.1)).Nodup
  low : ∀ e ∈ st.M, low n e.2 = e.1
  col : ∀ e ∈ st.M, colr n L e.2 = c
  head : st.M[0]? = some (p0, p0)
  ind : ∀ i e, st.M[i]? = some e → (e.2.1 - p0.1).natAbs ≤ i ∧ (e.2.2 - p0.2).natAbs ≤ i
  conn : ∀ e ∈ st.M, Conn (colr n L) p0 e.2
  clo : ∀ q ∈ T, colr n L q = c → Met n st q
  bor : st.b = (T.filter fun q => decide (colr n L q ≠ c)).length
  sh : ∀ s ∈ st.S, s ≠ (0, 0) ∧ ∃ u v, Conn (colr n L) p0 u ∧ Conn (colr n L) p0 v ∧ s = psub u v ∧ Cp.low n u = Cp.low n v
  shb : ∀ s ∈ st.S, s.1.natAbs ≤ 2 * st.M.length ∧ s.2.natAbs ≤ 2 * st.M.length
  sl : st.S.length ≤ T.length
theorem nbs_near {p q : Pt} (h : q ∈ nbs p) : (q.1 - p.1).natAbs ≤ 1 ∧ (q.2 - p.2).natAbs ≤ 1 := by
  simp only [nbs, List.mem_cons, List.not_mem_nil, or_false] at h
  rcases h with rfl | rfl | rfl | rfl
  all_goals (dsimp only; constructor <;> omega)
theorem DI.start {n : T3} {L : List Nat} {p0 : Pt} (h : Cp.low n p0 = p0) : DI n L (colr n L p0) p0 [] [] ⟨[(p0, p0)], [p0], [], 0⟩ where
  perm := List.Perm.refl _
  nod := by simp
  low := fun e he => by obtain rfl : e = (p0, p0) := by simpa using he
                        exact h
  col := fun e he => by obtain rfl : e = (p0, p0) := by simpa using he
                        rfl
  head := rfl
  ind := fun i e he => by
    obtain ⟨rfl, rfl⟩ : i = 0 ∧ e = (p0, p0) := by
      cases i with
      | zero => exact ⟨rfl, (Option.some.inj he).symm⟩
      | succ i => cases he
    constructor <;> simp
  conn := fun e he => by obtain rfl : e = (p0, p0) := by simpa using he
                         exact .refl
  clo := fun q hq => by cases hq
  bor := rfl
  sh := fun s hs => by cases hs
  shb := fun s hs => by cases hs
  sl := Nat.le_refl _
theorem mem_idx {M : List (Pt × Pt)} {e : Pt × Pt} (h : e ∈ M) : ∃ i, i < M.length ∧ M[i]? = some e := by
  obtain ⟨i, hi, rfl⟩ := List.getElem_of_mem h
  exact ⟨i, hi, List.getElem?_eq_getElem hi⟩
theorem DI.next {n : T3} {L : List Nat} {c : Nat} {p0 : Pt} {Dn T : List Pt} {st : DS} (h : DI n L c p0 Dn T st) {p q : Pt} (hp : p ∈ st.M.map (·.2)) (hq : q ∈ nbs p) :
    DI n L c p0 Dn (T ++ [q]) (dn n L c st q) ∧ ∃ l, (dn n L c st q).M = st.M ++ l := by
  obtain ⟨ep, hep, rfl⟩ := List.mem_map.mp hp
  obtain ⟨ip, hip, eip⟩ := mem_idx hep
  have hb := h.ind ip ep eip
  have hnear := nbs_near hq
  have hcp := h.col ep hep
  have hconn := h.conn ep hep
  unfold dn
  by_cases hc : colr n L q = c
  · rw [if_neg (fun z => z hc)]
    have hqc : Conn (colr n L) p0 q := .step hconn hq (hc.trans hcp.symm)
    have hbor : st.b = ((T ++ [q]).filter fun q => decide (colr n L q ≠ c)).length := by
      rw [List.filter_append, List.length_append, ← h.bor]
      simp [hc]
    cases e : fnd st.M (Cp.low n q) with
    | none =>
      have hsl : st.S.length ≤ (T ++ [q]).length := by have := h.sl; rw [List.length_append]; omega
      refine ⟨⟨?_, ?_, ?_, ?_, ?_, ?_, ?_, ?_, hbor, h.sh, ?_, hsl⟩, _, rfl⟩
      · show (Dn ++ (st.W ++ [q])).Perm ((st.M ++ [(Cp.low n q, q)]).map (·.2))
        rw [List.map_append, ← List.append_assoc]
        exact h.perm.append_right _
      · show ((st.M ++ [(Cp.low n q, q)]).map (·.1)).Nodup
        rw [List.map_append]
        refine List.nodup_append.mpr ⟨h.nod, by simp, fun a ha b hb z => ?_⟩
        obtain rfl : b = Cp.low n q := by simpa using hb
        exact fnd_none e (z ▸ ha)
      · intro x hx
        rcases List.mem_append.mp hx with z | z
        · exact h.low x z
        · obtain rfl : x = (Cp.low n q, q) := by simpa using z
          rfl
      · intro x hx
        rcases List.mem_append.mp hx with z | z
        · exact h.col x z
        · obtain rfl : x = (Cp.low n q, q) := by simpa using z
          exact hc
      · show (st.M ++ [(Cp.low n q, q)])[0]? = _
        have h0 := h.head
        rw [List.getElem?_append_left (by
          rcases Nat.lt_or_ge 0 st.M.length with z | z
          · exact z
          · rw [List.getElem?_eq_none z] at h0; cases h0)]
        exact h0
      · intro i x hx
        have hx : (st.M ++ [(Cp.low n q, q)])[i]? = some x := hx
        rcases Nat.lt_or_ge i st.M.length with z | z
        · rw [List.getElem?_append_left z] at hx
          exact h.ind i x hx
        · rw [List.getElem?_append_right z] at hx
          obtain rfl : x = (Cp.low n q, q) := by
            have := List.mem_of_getElem? hx
            simpa using this
          dsimp only
          constructor <;> omega
      · intro x hx
        rcases List.mem_append.mp hx with z | z
        · exact h.conn x z
        · obtain rfl : x = (Cp.low n q, q) := by simpa using z
          exact hqc
      · intro r hr hrc
        rcases List.mem_append.mp hr with z | z
        · obtain ⟨v, h1, h2⟩ := h.clo r z hrc
          exact ⟨v, fnd_app _ h1, h2⟩
        · obtain rfl : r = q := by simpa using z
          exact ⟨r, fnd_new e, .inl rfl⟩
      · intro s hs
        have := h.shb s hs
        show _ ≤ 2 * (st.M ++ [(Cp.low n q, q)]).length ∧ _ ≤ 2 * (st.M ++ [(Cp.low n q, q)]).length
        rw [List.length_append]
        constructor <;> omega
    | some r =>
      have hrm := fnd_mem e
      obtain ⟨ir, hir, eir⟩ := mem_idx hrm
      have hbr := h.ind ir _ eir
      dsimp only at hbr
      dsimp only
      by_cases hrq : r = q
      · rw [if_neg (fun z => z hrq)]
        refine ⟨⟨h.perm, h.nod, h.low, h.col, h.head, h.ind, h.conn, fun x hx hxc => ?_, hbor, h.sh, h.shb, by have := h.sl; rw [List.length_append]; omega⟩, [], by rw [List.append_nil]⟩
        rcases List.mem_append.mp hx with z | z
        · exact h.clo x z hxc
        · obtain rfl : x = q := by simpa using z
          exact ⟨r, e, .inl hrq.symm⟩
      · rw [if_pos hrq]
        refine ⟨⟨h.perm, h.nod, h.low, h.col, h.head, h.ind, h.conn, fun x hx hxc => ?_, hbor, fun s hs => ?_, fun s hs => ?_, by have := h.sl; show (st.S ++ [psub q r]).length ≤ _; rw [List.length_append, List.length_append]; simp; omega⟩, [], by rw [List.append_nil]⟩
        · rcases List.mem_append.mp hx with z | z
          · obtain ⟨v, h1, h2⟩ := h.clo x z hxc
            exact ⟨v, h1, h2.imp id fun z => List.mem_append_left _ z⟩
          · obtain rfl : x = q := by simpa using z
            exact ⟨r, e, .inr (List.mem_append_right _ (List.mem_singleton.mpr rfl))⟩
        · rcases List.mem_append.mp hs with z | z
          · exact h.sh s z
          · obtain rfl : s = psub q r := by simpa using z
            refine ⟨fun z => hrq ?_, q, r, hqc, h.conn _ hrm, rfl, (h.low _ hrm).symm⟩
            have z1 : q.1 - r.1 = 0 := congrArg Prod.fst z
            have z2 : q.2 - r.2 = 0 := congrArg Prod.snd z
            exact Prod.ext (by omega) (by omega)
        · rcases List.mem_append.mp hs with z | z
          · exact h.shb s z
          · obtain rfl : s = psub q r := by simpa using z
            show (q.1 - r.1).natAbs ≤ 2 * st.M.length ∧ (q.2 - r.2).natAbs ≤ 2 * st.M.length
            constructor <;> omega
  · rw [if_pos hc]
    refine ⟨⟨h.perm, h.nod, h.low, h.col, h.head, h.ind, h.conn, fun x hx hxc => ?_, ?_, h.sh, h.shb, by have := h.sl; rw [List.length_append]; show st.S.length ≤ _; omega⟩, [], by rw [List.append_nil]⟩
    · rcases List.mem_append.mp hx with z | z
      · exact h.clo x z hxc
      · obtain rfl : x = q := by simpa using z
        exact absurd hxc hc
    · show st.b + 1 = _
      rw [List.filter_append, List.length_append, ← h.bor]
      simp [hc]
theorem DI.pop {n : T3} {L : List Nat} {c : Nat} {p0 : Pt} {Dn T W : List Pt} {p : Pt} {M : List (Pt × Pt)} {S : List Pt} {b : Nat} (h : DI n L c p0 Dn T ⟨M, W ++ [p], S, b⟩) : DI n L c p0 (Dn ++ [p]) T ⟨M, W, S, b⟩ ∧ p ∈ M.map (·.2) := by
  refine ⟨⟨?_, h.nod, h.low, h.col, h.head, h.ind, h.conn, h.clo, h.bor, h.sh, h.shb, h.sl⟩, h.perm.mem_iff.mp (by simp)⟩
  have : ((Dn ++ [p]) ++ W).Perm (Dn ++ (W ++ [p])) := by
    rw [List.append_assoc]
    exact List.Perm.append_left _ List.perm_append_comm
  exact this.trans h.perm
end Cp
set_option Elab.async false
set_option linter.all false
/-! D2: the rounds of the search and its end, in plain Lean. -/
namespace Cp
open PySem
theorem nodup_sub_len {α : Type} [DecidableEq α] : ∀ (l m : List α), l.Nodup → (∀ x ∈ l, x ∈ m) → l.length ≤ m.length
  | [], _, _, _ => Nat.zero_le _
  | a :: l, m, nd, h => by
    rw [List.nodup_cons] at nd
    have ha := h a (List.mem_cons_self ..)
    have := nodup_sub_len l (m.erase a) nd.2 fun x hx => (List.mem_erase_of_ne (fun z : x = a => nd.1 (z ▸ hx))).mpr (h x (List.mem_cons_of_mem _ hx))
    rw [List.length_erase_of_mem ha] at this
    have := List.length_pos_of_mem ha
    rw [List.length_cons]; omega
def meas (N : Nat) (st : DS) : Nat := 2 * (N - st.M.length) + st.W.length
/-- the first i neighbours of p are done -/
def foldN (n : T3) (L : List Nat) (c : Nat) (p : Pt) (i : Nat) (st : DS) : DS := ((nbs p).take i).foldl (dn n L c) st
theorem foldN_zero (n : T3) (L : List Nat) (c : Nat) (p : Pt) (st : DS) : foldN n L c p 0 st = st := rfl
theorem foldN_succ (n : T3) (L : List Nat) (c : Nat) (p : Pt) (i : Nat) (st : DS) {q : Pt} (h : (nbs p)[i]? = some q) : foldN n L c p (i + 1) st = dn n L c (foldN n L c p i st) q := by
  unfold foldN
  rw [List.take_add_one, h, List.foldl_append]; rfl
theorem DI.fold {n : T3} {L : List Nat} {c : Nat} {p0 : Pt} {Dn T : List Pt} {st : DS} (h : DI n L c p0 Dn T st) {p : Pt} (hp : p ∈ st.M.map (·.2)) :
    ∀ i : Nat, DI n L c p0 Dn (T ++ (nbs p).take i) (foldN n L c p i st) ∧ p ∈ (foldN n L c p i st).M.map (·.2)
  | 0 => by rw [List.take_zero, List.append_nil]; exact ⟨h, hp⟩
  | i + 1 => by
    obtain ⟨h1, h2⟩ := DI.fold h hp i
    cases e : (nbs p)[i]? with
    | none =>
      have e2 : (nbs p).take (i + 1) = (nbs p).take i := by rw [List.take_add_one, e]; simp
      unfold foldN at *
      rw [e2]; exact ⟨h1, h2⟩
    | some q =>
      obtain ⟨g1, l, g2⟩ := h1.next h2 (List.mem_of_getElem? e)
      rw [foldN_succ n L c p i st e, List.take_add_one, e]
      refine ⟨?_, ?_⟩
      · rw [← List.append_assoc]; exact g1
      · rw [g2, List.map_append]; exact List.mem_append_left _ h2
theorem nbs_len (p : Pt) : (nbs p).length = 4 := rfl
theorem DI.round {n : T3} {L : List Nat} {c : Nat} {p0 : Pt} {Dn W : List Pt} {p : Pt} {M : List (Pt × Pt)} {S : List Pt} {b : Nat} (h : DI n L c p0 Dn (Dn.flatMap nbs) ⟨M, W ++ [p], S, b⟩) :
    DI n L c p0 (Dn ++ [p]) ((Dn ++ [p]).flatMap nbs) (foldN n L c p 4 ⟨M, W, S, b⟩) := by
  obtain ⟨h1, h2⟩ := h.pop
  have := (h1.fold (p := p) h2 4).1
  rw [List.take_of_length_le (Nat.le_of_eq (nbs_len p))] at this
  rw [List.flatMap_append]
  simpa using this
theorem flat_nbs : ∀ l : List Pt, (l.flatMap nbs).length = 4 * l.length
  | [] => rfl
  | a :: l => by rw [List.flatMap_cons, List.length_append, flat_nbs l, nbs_len, List.length_cons]; omega
/-- the search's end -/
structure DF (n : T3) (L : List Nat) (p0 : Pt) (M : List (Pt × Pt)) (S : List Pt) (b : Nat) : Prop where
  nod : (M.map (·.1)).Nodup
  low : ∀ e ∈ M, Cp.low n e.2 = e.1
  col : ∀ e ∈ M, colr n L e.2 = colr n L p0
  head : M[0]? = some (p0, p0)
  ind : ∀ i e, M[i]? = some e → (e.2.1 - p0.1).natAbs ≤ i ∧ (e.2.2 - p0.2).natAbs ≤ i
  conn : ∀ e ∈ M, Conn (colr n L) p0 e.2
  clo : ∀ e ∈ M, ∀ q ∈ nbs e.2, colr n L q = colr n L p0 → ∃ r, fnd M (Cp.low n q) = some r ∧ (q = r ∨ psub q r ∈ S)
  bor : b = (M.map fun e => ((nbs e.2).filter fun q => decide (colr n L q ≠ colr n L p0)).length).sum
  sh : ∀ s ∈ S, s ≠ (0, 0) ∧ ∃ u v, Conn (colr n L) p0 u ∧ Conn (colr n L) p0 v ∧ s = psub u v ∧ Cp.low n u = Cp.low n v
  shb : ∀ s ∈ S, s.1.natAbs ≤ 2 * M.length ∧ s.2.natAbs ≤ 2 * M.length
theorem len_filter_flatMap {α β : Type} (f : α → List β) (p : β → Bool) : ∀ l : List α, ((l.flatMap f).filter p).length = (l.map fun x => ((f x).filter p).length).sum
  | [] => rfl
  | a :: l => by
    rw [List.flatMap_cons, List.filter_append, List.length_append, len_filter_flatMap f p l, List.map_cons, List.sum_cons]
theorem perm_sum {l m : List Nat} (h : l.Perm m) : l.sum = m.sum := by
  induction h with
  | nil => rfl
  | cons x _ ih => rw [List.sum_cons, List.sum_cons, ih]
  | swap x y l => simp only [List.sum_cons]; omega
  | trans _ _ h1 h2 => exact h1.trans h2
theorem DI.done {n : T3} {L : List Nat} {p0 : Pt} {Dn : List Pt} {M : List (Pt × Pt)} {S : List Pt} {b : Nat} (h : DI n L (colr n L p0) p0 Dn (Dn.flatMap nbs) ⟨M, [], S, b⟩) : DF n L p0 M S b := by
  have hperm : Dn.Perm (M.map (·.2)) := by
    have := h.perm
    rw [List.append_nil] at this
    exact this
  refine ⟨h.nod, h.low, h.col, h.head, h.ind, h.conn, fun e he q hq hc => ?_, ?_, h.sh, h.shb⟩
  · refine h.clo q (List.mem_flatMap.mpr ⟨e.2, hperm.mem_iff.mpr (List.mem_map.mpr ⟨e, he, rfl⟩), hq⟩) hc
  · have h1 := h.bor
    dsimp only at h1
    rw [h1, len_filter_flatMap]
    rw [perm_sum (hperm.map fun x => ((nbs x).filter fun q => decide (colr n L q ≠ colr n L p0)).length), List.map_map]
    rfl
end Cp
set_option Elab.async false
set_option linter.all false
/-! D3: the cell; how long the search can grow. -/
namespace Cp
open PySem
theorem mem_cell {n : T3} {p : Pt} : p ∈ cellL n ↔ 0 ≤ p.1 ∧ p.1 < n.1 ∧ 0 ≤ p.2 ∧ p.2 < n.2.2 := by
  obtain ⟨x, y⟩ := p
  unfold cellL SG.rowsFrom SG.rowFrom
  simp only [List.mem_flatMap, List.mem_map, List.mem_range'_1, Prod.mk.injEq]
  constructor
  · rintro ⟨j, ⟨h1, h2⟩, i, ⟨h3, h4⟩, rfl, rfl⟩
    omega
  · rintro ⟨h1, h2, h3, h4⟩
    exact ⟨y.toNat, by omega, x.toNat, by omega, by omega, by omega⟩
theorem low_cell {n : T3} (ok : NOk n) (p : Pt) : low n p ∈ cellL n := by
  obtain ⟨h1, h2, h3, h4⟩ := low_rng ok p
  exact mem_cell.mpr ⟨h1, h2, h3, h4⟩
theorem low_self {n : T3} (ok : NOk n) {p : Pt} (h : p ∈ cellL n) : low n p = p := by
  obtain ⟨h1, h2, h3, h4⟩ := mem_cell.mp h
  have e : p.2 / n.2.2 = 0 := Int.ediv_eq_zero_of_lt h3 h4
  unfold low
  rw [e]
  refine Prod.ext ?_ ?_
  · show (p.1 - 0 * n.2.1) % n.1 = p.1
    rw [Int.zero_mul, Int.sub_zero]; exact Int.emod_eq_of_lt h1 h2
  · show p.2 - 0 * n.2.2 = p.2; omega
theorem low_low {n : T3} (ok : NOk n) (p : Pt) : low n (low n p) = low n p := low_self ok (low_cell ok p)
theorem DI.len {n : T3} {L : List Nat} {c : Nat} {p0 : Pt} {Dn T : List Pt} {st : DS} (ok : NOk n) (h : DI n L c p0 Dn T st) : st.M.length ≤ (cellL n).length := by
  have := nodup_sub_len (st.M.map (·.1)) (cellL n) h.nod fun x hx => by
    obtain ⟨e, he, rfl⟩ := List.mem_map.mp hx
    rw [← h.low e he]; exact low_cell ok _
  rwa [List.length_map] at this
theorem dn_meas {n : T3} {L : List Nat} {c N : Nat} {st : DS} {q : Pt} (h : (dn n L c st q).M.length ≤ N) : meas N (dn n L c st q) ≤ meas N st := by
  unfold dn at *
  by_cases hc : colr n L q ≠ c
  · rw [if_pos hc]; exact Nat.le_refl _
  · rw [if_neg hc] at *
    cases e : fnd st.M (Cp.low n q) with
    | none =>
      rw [e] at h
      dsimp only at h ⊢
      unfold meas
      dsimp only
      rw [List.length_append, List.length_singleton] at *
      rw [List.length_append, List.length_singleton]
      omega
    | some r =>
      dsimp only
      by_cases z : r ≠ q
      · rw [if_pos z]; exact Nat.le_refl _
      · rw [if_neg z]; exact Nat.le_refl _
theorem DI.fold_meas {n : T3} {L : List Nat} {c : Nat} {p0 : Pt} {Dn T : List Pt} {st : DS} (ok : NOk n) (h : DI n L c p0 Dn T st) {p : Pt} (hp : p ∈ st.M.map (·.2)) :
    ∀ i : Nat, meas (cellL n).length (foldN n L c p i st) ≤ meas (cellL n).length st
  | 0 => Nat.le_refl _
  | i + 1 => by
    have ih := DI.fold_meas ok h hp i
    obtain ⟨h1, h2⟩ := DI.fold h hp i
    cases e : (nbs p)[i]? with
    | none =>
      have e2 : (nbs p).take (i + 1) = (nbs p).take i := by rw [List.take_add_one, e]; simp
      unfold foldN at *
      rw [e2]; exact ih
    | some q =>
      rw [foldN_succ n L c p i st e]
      have h3 := (DI.fold h hp (i + 1)).1.len ok
      rw [foldN_succ n L c p i st e] at h3
      exact Nat.le_trans (dn_meas h3) ih
end Cp
set_option Elab.async false
set_option linter.all false
set_option maxRecDepth 100000
set_option maxHeartbeats 2000000
/-! F10: a carpet's methods. -/
namespace Cp
open PySem PySem.Spec PyProof.Rows L2
local macro_rules | `(tactic| tm_at "fact") => `(tactic| first
  | assumption
  | (apply Same.up; · assumption
     tm_at "fact")
  | (apply Same.upS; · assumption
     tm_at "fact")
  | (apply Same.upL; · assumption
     tm_at "fact")
  | (apply sq_of; tm_at "fact")
  | (apply sl_of; tm_at "fact")
  | (apply Chg.up; · assumption
     · tm_at "fact"
     · exact fun z => nomatch z)
  | (apply Chg.upS; · assumption
     · tm_at "fact"
     · exact fun _ z => nomatch z
     · exact fun _ _ z => nomatch z))
local macro_rules | `(tactic| tm_at "same") => `(tactic| first
  | assumption
  | exact Same.refl _
  | (refine Same.trans ?_ ?_; rotate_left; · assumption
     tm_at "same"))
local macro_rules | `(tactic| tm_at "sx1") => `(tactic| with_reducible first
  | refine w_var rfl ?_
  | refine w_c ?_
  | refine w_op ?_
  | refine w_seq ?_
  | refine w_asg ?_
  | refine w_gname ?_
  | refine w_ret ?_
  | refine w_nil ?_
  | refine w_cons ?_
  | refine w_tup ?_
  | refine w_lst ?_
  | refine w_cb ?_
  | refine w_callR ?_
  | refine w_i0 ?_
  | refine w_gcons ?_
  | refine w_gnil ?_
  | refine w_test ?_
  | refine w_not ?_
  | refine w_ifs ?_
  | refine w_if ?_
  | refine w_expr ?_
  | refine w_eqI ?_
  | refine w_neI ?_
  | refine w_eqS ?_
  | refine w_neS ?_
  | refine w_or ?_
  | refine w_and ?_
  | refine w_par3 ?_
  | refine w_andV ?_
  | refine w_notV ?_
  | refine w_lcS ?_
  | refine w_forE ?_
  | refine w_m1 ?_
  | refine w_forL ?_
  | refine w_forR1 ?_
  | refine w_isN ?_
  | refine w_notN ?_
  | refine w_fld ?_
  | refine w_methR ?_
  | refine w_propR ?_
  | refine w_propA ?_
  | refine w_methA ?_
  | refine w_subA ?_
  | refine w_makeS ?_
  | refine w_fldS ?_
  | refine w_chain ?_
  | refine w_orV ?_
  | refine w_next ?_
  | refine w_tB ?_
  | refine w_lcL ?_
  | refine w_lcT ?_
  | refine w_lcR1 ?_
  | refine w_lcR2 ?_
  | refine w_turn ?_
  | refine w_yes ?_
  | refine w_par ?_
  | refine w_uI ?_
  | refine w_un ?_
  | refine w_one ?_)
local macro_rules | `(tactic| tm_at "at") => `(tactic| first | exact rfl | exact atI_nat rfl)
local macro_rules | `(tactic| tm_at "ix") => `(tactic| first
  | (with_reducible apply w_ixT; · tm_at "fact"
     · tm_at "at")
  | (with_reducible apply w_ixL; · tm_at "fact"
     · tm_at "at")
  | (with_reducible apply w_gtup; · tm_at "fact"
     · exact rfl))
local macro_rules | `(tactic| tm_at "sx") => `(tactic| repeat (first | tm_at "sx1" | tm_at "ix"))
section
variable {P : Program} {w : World} {K : PySem.W.Frag} {mg : Str → Option Value} {base : Heap}
def sp_Carpet_net (K : PySem.W.Frag) : Sp := fun vs H Q _ => ∃ (o C : Addr) (n : T3) (L : List Nat), vs = [.ref o] ∧ CarC K C ∧ CarV K H o C n L ∧ ∀ b, NetV K H b n → Q (.ref b) H
theorem ok_Carpet_net (T : Tx K mg) : FnR P w K mg base CX0 1 (He5.wf K (He.ga K "Carpet") "property" "net") (sp_Carpet_net K) := by
  refine fnr_of T.f_Carpet_net sc_Carpet_net (fun _ _ _ _ _ _ us hl => match us, hl with | [_], _ => rfl) (fun vs H Q E h => by obtain ⟨_, _, _, _, rfl, _⟩ := h; rfl) (fun cdv A outer s H vs Q E hr h => ?_)
  have nd := sc_Carpet_net.nd
  refine ⟨_, (pss_one (ps_ret (pe_fld (pv 0) rfl))), ?_⟩
  try dsimp only [cxOf]
  obtain ⟨o, C, n, L, rfl, hC, ⟨dx, nt, ho, hn, ok⟩, q⟩ := h
  obtain ⟨c1, n1, n2⟩ := T.carC hC
  tm_at "sx"
  exact ⟨_, _, _, _, _, rfl, ho, c1, n1, rfl, q _ hn⟩
def sp_Carpet_text (K : PySem.W.Frag) : Sp := fun vs H Q _ => ∃ (o C : Addr) (n : T3) (L : List Nat), vs = [.ref o] ∧ CarC K C ∧ CarV K H o C n L ∧ Q (.str (txt L)) H
theorem ok_Carpet_text (T : Tx K mg) : FnR P w K mg base CX0 1 (He5.wf K (He.ga K "Carpet") "property" "text") (sp_Carpet_text K) := by
  refine fnr_of T.f_Carpet_text sc_Carpet_text (fun _ _ _ _ _ _ us hl => match us, hl with | [_], _ => rfl) (fun vs H Q E h => by obtain ⟨_, _, _, _, rfl, _⟩ := h; rfl) (fun cdv A outer s H vs Q E hr h => ?_)
  have nd := sc_Carpet_text.nd
  refine ⟨_, (pss_one (ps_ret (pe_fld (pv 0) rfl))), ?_⟩
  try dsimp only [cxOf]
  obtain ⟨o, C, n, L, rfl, hC, ⟨dx, nt, ho, hn, ok⟩, q⟩ := h
  obtain ⟨c1, n1, n2⟩ := T.carC hC
  tm_at "sx"
  exact ⟨_, _, _, _, _, rfl, ho, c1, n2, rfl, q⟩
def sp_Carpet_seen (K : PySem.W.Frag) : Sp := fun vs H Q _ => ∃ (o a C : Addr) (n : T3) (L : List Nat) (p : Int × Int), vs = [.ref o, .ref a] ∧ CarC K C ∧ CarV K H o C n L ∧ H a = some (tup2 p) ∧ ∀ H', Same H H' → Q (.str (one1 (colr n L p))) H'
theorem ok_Carpet_seen (T : Tx K mg) : FnR P w K mg base CX0 4 (He.ma K (He.ga K "Carpet") "seen") (sp_Carpet_seen K) := by
  refine fnr_of T.f_Carpet_seen sc_Carpet_seen (fun _ _ _ _ _ _ us hl => match us, hl with | [_, _], _ => rfl) (fun vs H Q E h => by obtain ⟨_, _, _, _, _, _, rfl, _⟩ := h; rfl) (fun cdv A outer s H vs Q E hr h => ?_)
  have nd := sc_Carpet_seen.nd
  refine ⟨_, (pss_one (ps_ret (pe_callR (ok_colour_at T) (hr.mono (by decide)) rfl T.g_colour_at T.k_colour_at (pa_cons (pe_fld (pv 0) rfl) (pa_cons (pe_fld (pv 0) rfl) (pa_cons (pv 1) pa_nil)))))), ?_⟩
  try dsimp only [cxOf]
  obtain ⟨o, a, C, n, L, p, rfl, hC, ⟨dx, nt, ho, hn, ok⟩, ha, q⟩ := h
  obtain ⟨c1, n1, n2⟩ := T.carC hC
  tm_at "sx"
  refine ⟨_, _, _, _, _, rfl, ho, c1, n1, rfl, ?_⟩
  tm_at "sx"
  refine ⟨_, _, _, _, _, rfl, ho, c1, n2, rfl, ?_⟩
  tm_at "sx"
  exact ⟨nt, a, n, L, p, rfl, hn, ok, ha, q⟩
def sp_Carpet___getitem__ (K : PySem.W.Frag) : Sp := fun vs H Q _ => ∃ (o a C : Addr) (n : T3) (L : List Nat) (p : Int × Int), vs = [.ref o, .ref a] ∧ CarC K C ∧ CarV K H o C n L ∧ H a = some (tup2 p) ∧ ∀ H', Same H H' → Q (.str (one1 (colr n L p))) H'
theorem ok_Carpet___getitem__ (T : Tx K mg) : FnR P w K mg base CX0 5 (He.ma K (He.ga K "Carpet") "__getitem__") (sp_Carpet___getitem__ K) := by
  refine fnr_of T.f_Carpet___getitem__ sc_Carpet___getitem__ (fun _ _ _ _ _ _ us hl => match us, hl with | [_, _], _ => rfl) (fun vs H Q E h => by obtain ⟨_, _, _, _, _, _, rfl, _⟩ := h; rfl) (fun cdv A outer s H vs Q E hr h => ?_)
  have nd := sc_Carpet___getitem__.nd
  refine ⟨_, (pss_cons (ps_if (pt_not (pt_val (pe_callR (ok_is_place T) (hr.mono (by decide)) rfl T.g_is_place T.k_is_place (pa_cons (pv 1) pa_nil)))) (pss_one ps_never) pss_nil)
    (pss_one (ps_ret (pe_methA (pv 0) T.me_seen (ok_Carpet_seen T) (hr.mono (by decide)) (pa_cons (pv 1) pa_nil))))), ?_⟩
  try dsimp only [cxOf]
  obtain ⟨o, a, C, n, L, p, rfl, hC, hc, ha, q⟩ := h
  tm_at "sx"
  refine ⟨a, p.1, p.2, rfl, ha, fun H1 s1 => ⟨true, rfl, w_ff ?_⟩⟩
  tm_at "sx"
  obtain ⟨dx, nt, ho, hn, ok⟩ := id hc
  refine ⟨_, _, _, _, rfl, hC, Same.up s1 ho, rfl, ?_⟩
  tm_at "sx"
  exact ⟨o, a, C, n, L, p, rfl, hC, hc.up s1, Same.up s1 ha, fun H2 s2 => q H2 (Same.trans s1 s2)⟩
def sp_Carpet___len__ (K : PySem.W.Frag) : Sp := fun vs H Q _ => ∃ (o C : Addr) (n : T3) (L : List Nat), vs = [.ref o] ∧ CarC K C ∧ CarV K H o C n L ∧ Q (.int L.length) H
theorem ok_Carpet___len__ (T : Tx K mg) : FnR P w K mg base CX0 1 (He.ma K (He.ga K "Carpet") "__len__") (sp_Carpet___len__ K) := by
  refine fnr_of T.f_Carpet___len__ sc_Carpet___len__ (fun _ _ _ _ _ _ us hl => match us, hl with | [_], _ => rfl) (fun vs H Q E h => by obtain ⟨_, _, _, _, rfl, _⟩ := h; rfl) (fun cdv A outer s H vs Q E hr h => ?_)
  have nd := sc_Carpet___len__.nd
  refine ⟨_, (pss_one (ps_ret (pe_callB call_len rfl T.b_len bo_len (pa_cons (pe_fld (pv 0) rfl) pa_nil)))), ?_⟩
  try dsimp only [cxOf]
  obtain ⟨o, C, n, L, rfl, hC, ⟨dx, nt, ho, hn, ok⟩, q⟩ := h
  obtain ⟨c1, n1, n2⟩ := T.carC hC
  tm_at "sx"
  refine ⟨_, _, _, _, _, rfl, ho, c1, n2, rfl, ?_⟩
  tm_at "sx"
  have hsl := sizeLine_eq
  have hs := ok.small
  refine ⟨_, _, rfl, ⟨by show L.toArray.size ≤ sizeLine; rw [List.size_toArray]; omega, rfl⟩, ?_⟩
  show Q (.int ((L.toArray.size : Nat) : Int)) H
  rw [List.size_toArray]; exact q
theorem txt_inj {L M : List Nat} : txt L = txt M ↔ L = M := by
  constructor
  · intro h
    have : L.toArray = M.toArray := congrArg Str.cps h
    simpa using this
  · rintro rfl; rfl
/-- two carpets of the class Woven -/
def sp_Carpet___eq__ (K : PySem.W.Frag) : Sp := fun vs H Q _ => ∃ (o b : Addr) (n m : T3) (L M : List Nat), vs = [.ref o, .ref b] ∧ CarV K H o (He.ga K "Woven") n L ∧ CarV K H b (He.ga K "Woven") m M ∧ Q (.bl (decide (n = m ∧ L = M))) H
theorem ok_Carpet___eq__ (T : Tx K mg) : FnR P w K mg base CX0 2 (He.ma K (He.ga K "Carpet") "__eq__") (sp_Carpet___eq__ K) := by
  refine fnr_of T.f_Carpet___eq__ sc_Carpet___eq__ (fun _ _ _ _ _ _ us hl => match us, hl with | [_, _], _ => rfl) (fun vs H Q E h => by obtain ⟨_, _, _, _, _, _, rfl, _⟩ := h; rfl) (fun cdv A outer s H vs Q E hr h => ?_)
  have nd := sc_Carpet___eq__.nd
  refine ⟨_, (pss_one (ps_ret (pe_and (pe_callB call_isi rfl T.b_isinstance bo_isinstance (pa_cons (pv 1) (pa_cons (pe_glob (v := .ref _) rfl T.g_Carpet rfl) pa_nil))) (pe_and (pe_cmpR (op_eqO T.x_Net__eq__ (ok_Net___eq__ T) (hr.mono (by decide))) (pe_fld (pv 0) rfl) (pe_fld (pv 1) rfl) (nomark _)) (pe_one (pe_cmpR op_eq (pe_fld (pv 0) rfl) (pe_fld (pv 1) rfl) (nomark _))))))), ?_⟩
  try dsimp only [cxOf]
  obtain ⟨o, b, n, m, L, M, rfl, ⟨dx, nt, ho, hn, ok⟩, ⟨dy, mt, hb, hm, mk⟩, q⟩ := h
  tm_at "sx"
  refine w_isi (b := true) (.own _) (.base (.ins hb T.c_Woven T.ic_Woven T.sp_class T.tk_class T.mo_Woven)) T.i_Woven ?_
  refine ⟨true, rfl, w_tt ?_⟩
  tm_at "sx"
  refine ⟨_, _, _, _, _, rfl, ho, T.c_Woven, T.n_Woven_own_net, rfl, ?_⟩
  tm_at "sx"
  refine ⟨_, _, _, _, _, rfl, hb, T.c_Woven, T.n_Woven_own_net, rfl, ?_⟩
  obtain ⟨dn, tn, hnn, htn⟩ := id hn
  obtain ⟨dm, tm, hmm, htm⟩ := id hm
  refine ⟨nt, dn, _, mt, dm, _, rfl, rfl, hnn, hmm, ?_⟩
  refine ⟨nt, mt, n, m, rfl, hn, hm, ?_⟩
  refine ⟨_, rfl, ?_⟩
  refine ⟨_, rfl, ?_⟩
  by_cases e : n = m
  · rw [decide_eq_true e]
    refine w_tt ?_
    tm_at "sx"
    refine ⟨_, _, _, _, _, rfl, ho, T.c_Woven, T.n_Woven_own_text, rfl, ?_⟩
    tm_at "sx"
    refine ⟨_, _, _, _, _, rfl, hb, T.c_Woven, T.n_Woven_own_text, rfl, ?_⟩
    tm_at "sx"
    have e2 : decide (txt L = txt M) = decide (n = m ∧ L = M) := by
      by_cases h : L = M <;> simp [h, e]
    rw [e2]
    exact q
  · rw [decide_eq_false e]
    refine w_ff ?_
    have e2 : decide (n = m ∧ L = M) = false := decide_eq_false fun z => e z.1
    rw [e2] at q
    exact q
end
end Cp
set_option Elab.async false
set_option linter.all false
set_option maxRecDepth 100000
set_option maxHeartbeats 2000000
/-! F11: checks of rows and colours, making carpets. -/
namespace Cp
open PySem PySem.Spec PyProof.Rows L2
local macro_rules | `(tactic| tm_at "fact") => `(tactic| first
  | assumption
  | (apply Same.up; · assumption
     tm_at "fact")
  | (apply Same.upS; · assumption
     tm_at "fact")
  | (apply Same.upL; · assumption
     tm_at "fact")
  | (apply sq_of; tm_at "fact")
  | (apply sl_of; tm_at "fact")
  | (apply Chg.up; · assumption
     · tm_at "fact"
     · exact fun z => nomatch z)
  | (apply Chg.upS; · assumption
     · tm_at "fact"
     · exact fun _ z => nomatch z
     · exact fun _ _ z => nomatch z))
local macro_rules | `(tactic| tm_at "same") => `(tactic| first
  | assumption
  | exact Same.refl _
  | (refine Same.trans ?_ ?_; rotate_left; · assumption
     tm_at "same"))
local macro_rules | `(tactic| tm_at "sx1") => `(tactic| with_reducible first
  | refine w_var rfl ?_
  | refine w_c ?_
  | refine w_op ?_
  | refine w_seq ?_
  | refine w_asg ?_
  | refine w_gname ?_
  | refine w_ret ?_
  | refine w_nil ?_
  | refine w_cons ?_
  | refine w_tup ?_
  | refine w_lst ?_
  | refine w_cb ?_
  | refine w_callR ?_
  | refine w_i0 ?_
  | refine w_gcons ?_
  | refine w_gnil ?_
  | refine w_test ?_
  | refine w_not ?_
  | refine w_ifs ?_
  | refine w_if ?_
  | refine w_expr ?_
  | refine w_eqI ?_
  | refine w_neI ?_
  | refine w_eqS ?_
  | refine w_neS ?_
  | refine w_or ?_
  | refine w_and ?_
  | refine w_par3 ?_
  | refine w_andV ?_
  | refine w_notV ?_
  | refine w_lcS ?_
  | refine w_forE ?_
  | refine w_m1 ?_
  | refine w_forL ?_
  | refine w_forR1 ?_
  | refine w_isN ?_
  | refine w_notN ?_
  | refine w_fld ?_
  | refine w_methR ?_
  | refine w_propR ?_
  | refine w_propA ?_
  | refine w_methA ?_
  | refine w_subA ?_
  | refine w_makeS ?_
  | refine w_fldS ?_
  | refine w_chain ?_
  | refine w_orV ?_
  | refine w_next ?_
  | refine w_tB ?_
  | refine w_lcL ?_
  | refine w_lcT ?_
  | refine w_lcR1 ?_
  | refine w_lcR2 ?_
  | refine w_turn ?_
  | refine w_yes ?_
  | refine w_par ?_
  | refine w_uI ?_
  | refine w_un ?_
  | refine w_one ?_)
local macro_rules | `(tactic| tm_at "at") => `(tactic| first | exact rfl | exact atI_nat rfl)
local macro_rules | `(tactic| tm_at "ix") => `(tactic| first
  | (with_reducible apply w_ixT; · tm_at "fact"
     · tm_at "at")
  | (with_reducible apply w_ixL; · tm_at "fact"
     · tm_at "at")
  | (with_reducible apply w_gtup; · tm_at "fact"
     · exact rfl))
local macro_rules | `(tactic| tm_at "sx") => `(tactic| repeat (first | tm_at "sx1" | tm_at "ix"))
def LET : List Nat := [97, 98, 99, 100, 101, 102, 103, 104, 105, 106, 107, 108, 109, 110, 111, 112, 113, 114, 115, 116, 117, 118, 119, 120, 121, 122]
theorem let_eq : Str.ofString "abcdefghijklmnopqrstuvwxyz" = txt LET := by decide +kernel
theorem in_let {c : Nat} (h : c ∈ LET) : (!(Builtin.Str.occurrences (txt LET) (one1 c) 0 (txt LET).length 1).isEmpty) = true := (SX.in_one LET c).trans (decide_eq_true h)
section
variable {P : Program} {w : World} {K : PySem.W.Frag} {mg : Str → Option Value} {base : Heap}
def sp_is_colour (K : PySem.W.Frag) : Sp := fun vs H Q _ => ∃ c : Nat, vs = [.str (one1 c)] ∧ c ∈ LET ∧ Q (.bl true) H
theorem ok_is_colour (T : Tx K mg) : FnR P w K mg base CX0 1 (He.ga K "is_colour") (sp_is_colour K) := by
  refine fnr_of T.f_is_colour sc_is_colour (fun _ _ _ _ _ _ us hl => match us, hl with | [_], _ => rfl) (fun vs H Q E h => by obtain ⟨_, rfl, _⟩ := h; rfl) (fun cdv A outer s H vs Q E hr h => ?_)
  have nd := sc_is_colour.nd
  refine ⟨_, (pss_one (ps_ret (pe_and (pe_callB call_isi rfl T.b_isinstance bo_isinstance (pa_cons (pv 0) (pa_cons (pe_bltn (v := .ty "str") rfl T.b_str bo_str rfl) pa_nil))) (pe_and (pe_cmpR op_eq (pe_callB call_len rfl T.b_len bo_len (pa_cons (pv 0) pa_nil)) pe_int (nomark _)) (pe_one (pe_cmpR op_in_str (pv 0) (pe_gstr rfl T.g_LETTERS) (by with_unfolding_all rfl))))))), ?_⟩
  try dsimp only [cxOf]
  obtain ⟨c, rfl, hc, q⟩ := h
  have hsl := sizeLine_eq
  tm_at "sx"
  refine w_isi (b := true) (.ty "str") ty_str (kit_ty (by decide +kernel)) ?_
  refine ⟨true, rfl, w_tt ?_⟩
  tm_at "sx"
  refine ⟨_, 1, rfl, ⟨by show 1 ≤ sizeLine; omega, rfl⟩, ?_⟩
  tm_at "sx"
  refine ⟨_, rfl, ?_⟩
  refine w_tt ?_
  tm_at "sx"
  rw [let_eq]
  refine ⟨_, _, rfl, rfl, ?_⟩
  rw [in_let hc]
  exact q
def sp_check_colour (K : PySem.W.Frag) : Sp := fun vs H Q _ => ∃ c : Nat, vs = [.str (one1 c)] ∧ c ∈ LET ∧ Q .non H
theorem ok_check_colour (T : Tx K mg) : FnR P w K mg base CX0 2 (He.ga K "check_colour") (sp_check_colour K) := by
  refine fnr_of T.f_check_colour sc_check_colour (fun _ _ _ _ _ _ us hl => match us, hl with | [_], _ => rfl) (fun vs H Q E h => by obtain ⟨_, rfl, _⟩ := h; rfl) (fun cdv A outer s H vs Q E hr h => ?_)
  have nd := sc_check_colour.nd
  refine ⟨_, (pss_one (ps_if (pt_not (pt_val (pe_callR (ok_is_colour T) (hr.mono (by decide)) rfl T.g_is_colour T.k_is_colour (pa_cons (pv 0) pa_nil)))) (pss_one ps_never) pss_nil)), ?_⟩
  try dsimp only [cxOf]
  obtain ⟨c, rfl, hc, q⟩ := h
  tm_at "sx"
  exact ⟨c, rfl, hc, true, rfl, w_ff q⟩
def sp_is_row (K : PySem.W.Frag) : Sp := fun vs H Q _ => ∃ (L : List Nat) (m : Int), vs = [.str (txt L), .str (txt LET), .int m] ∧ 1 ≤ L.length ∧ (L.length : Int) ≤ m ∧ m ≤ 100000 ∧ (∀ c ∈ L, c ∈ LET) ∧ ∀ H', Same H H' → Q (.bl true) H'
theorem ok_is_row (T : Tx K mg) : FnR P w K mg base CX0 1 (He.ga K "is_row") (sp_is_row K) := by
  refine fnr_of T.f_is_row sc_is_row (fun _ _ _ _ _ _ us hl => match us, hl with | [_, _, _], _ => rfl) (fun vs H Q E h => by obtain ⟨_, _, rfl, _⟩ := h; rfl) (fun cdv A outer s H vs Q E hr h => ?_)
  have nd := sc_is_row.nd
  refine ⟨_, (pss_one (ps_ret (pe_and (pe_callB call_isi rfl T.b_isinstance bo_isinstance (pa_cons (pv 0) (pa_cons (pe_bltn (v := .ty "str") rfl T.b_str bo_str rfl) pa_nil))) (pe_and (pe_chain op_le op_le pe_int (pe_callB call_len rfl T.b_len bo_len (pa_cons (pv 0) pa_nil)) (pv 2)) (pe_one (pe_callB (cr_all rfl) rfl T.b_all bo_all (pa_cons (pe_lcS (own := [("sign", 3)]) (g := (gName 3)) rfl nd (pv 0) (blkOk_by (N := Nis_row) (sc := defScope sis_row) (by decide +kernel)) (fun _ _ _ _ _ => (pg_name (i := 3) nd rfl (Or.inl rfl))) (fun _ _ _ _ _ => pts_nil) (fun _ _ _ _ _ => (pe_cmpR op_in_str (pv 3) (pv 1) (by with_unfolding_all rfl)))) pa_nil))))))), ?_⟩
  try dsimp only [cxOf]
  obtain ⟨L, m, rfl, h1, h2, h3, hL, q⟩ := h
  have hsl := sizeLine_eq
  tm_at "sx"
  refine w_isi (b := true) (.ty "str") ty_str (kit_ty (by decide +kernel)) ?_
  refine ⟨true, rfl, w_tt ?_⟩
  tm_at "sx"
  refine ⟨_, L.length, rfl, ⟨by show L.toArray.size ≤ sizeLine; rw [List.size_toArray]; omega, by show _ = L.toArray.size; rw [List.size_toArray]⟩, ?_⟩
  tm_at "sx"
  refine ⟨_, rfl, ?_⟩
  rw [decide_eq_true (by omega)]
  refine w_tt ?_
  tm_at "sx"
  rw [decide_eq_true h2]
  refine ⟨_, rfl, ?_⟩
  refine w_tt ?_
  tm_at "sx"
  refine ⟨L, rfl, by omega, fun i acc H => acc = List.replicate i (V.bl true), fun _ _ => rfl, fun D i v acc H hi hx hD s e p => ?_, fun D acc H hD s e p => ?_⟩
  · subst p
    obtain ⟨c, hc, rfl⟩ := hx
    tm_at "sx"
    refine ⟨rfl, ?_⟩
    tm_at "sx"
    refine ⟨_, _, rfl, rfl, e, s, fun H5 c' s5 => ?_⟩
    rw [in_let (hL c (List.mem_of_getElem? hc)), List.replicate_succ']
  · subst p
    refine w_all (bs := List.replicate L.length true) (sl_of (by rw [List.map_replicate]; exact e)) ?_
    rw [show (List.replicate L.length true).all id = true by simp]
    exact q _ s
/-- rows as texts of one width -/
def sp_check_rows (K : PySem.W.Frag) : Sp := fun vs H Q _ => ∃ (l : Addr) (rs : List (List Nat)) (wd : Nat) (m : Int), vs = [.ref l, .str (txt LET), .int m] ∧ H l = some (.lst (rs.map fun r => V.str (txt r))) ∧ 1 ≤ rs.length ∧ (rs.length : Int) ≤ m ∧ 1 ≤ wd ∧ (wd : Int) ≤ m ∧ m ≤ 100000 ∧ (∀ r ∈ rs, r.length = wd ∧ ∀ c ∈ r, c ∈ LET) ∧ ∀ H', Same H H' → Q .non H'
theorem ok_check_rows (T : Tx K mg) : FnR P w K mg base CX0 2 (He.ga K "check_rows") (sp_check_rows K) := by
  refine fnr_of T.f_check_rows sc_check_rows (fun _ _ _ _ _ _ us hl => match us, hl with | [_, _, _], _ => rfl) (fun vs H Q E h => by obtain ⟨_, _, _, _, rfl, _⟩ := h; rfl) (fun cdv A outer s H vs Q E hr h => ?_)
  have nd := sc_check_rows.nd
  refine ⟨_, (pss_cons (ps_if (PW.pt (pw_or (pt_not (pt_val (pe_callB call_isiT rfl T.b_isinstance bo_isinstance (pa_cons (pv 0) (pa_cons (pe_tupS (pa_cons (pe_bltn (v := .ty "list") rfl T.b_list bo_list rfl) (pa_cons (pe_bltn (v := .ty "tuple") rfl T.b_tuple bo_tuple rfl) pa_nil))) pa_nil))))) (pw_or1 (pt_not (pt_chain op_le op_le pe_int (pe_callB call_len rfl T.b_len bo_len (pa_cons (pv 0) pa_nil)) (pv 2)))))) (pss_one ps_never) pss_nil)
    (pss_one (ps_for PassesOwn.never rfl (pi_enum rfl T.b_enumerate (pa_cons (pv 0) pa_nil)) (pg_tup rfl (pgs_cons (pg_name (i := 3) nd rfl (Or.inl rfl)) (pgs_cons (pg_name (i := 4) nd rfl (Or.inl rfl)) pgs_nil))) (pss_one (ps_if (PW.pt (pw_or (pt_not (pt_val (pe_callR (ok_is_row T) (hr.mono (by decide)) rfl T.g_is_row T.k_is_row (pa_cons (pv 4) (pa_cons (pv 1) (pa_cons (pv 2) pa_nil)))))) (pw_or1 (pt_cmpR op_ne (pe_callB call_len rfl T.b_len bo_len (pa_cons (pv 4) pa_nil)) (pe_callB call_len rfl T.b_len bo_len (pa_cons (pe_ix ix_list (pv 0) pe_int (fun _ _ => rfl)) pa_nil)) (nomark _))))) (pss_one ps_never) pss_nil))))), ?_⟩
  try dsimp only [cxOf]
  obtain ⟨l, rs, wd, m, rfl, hl, h1, h2, w1, w2, h3, hr, q⟩ := h
  have hsl := sizeLine_eq
  tm_at "sx"
  refine ⟨by show 2 ≤ sizeLine; omega, fun T0 H1 nT s1 e1 => ?_⟩
  tm_at "sx"
  refine ⟨.ref l, T0, _, .type "list", [.type "list", .type "tuple"], true, rfl, e1, .cons (.ty _) (.cons (.ty _) .nil), .base (.lst (Same.up s1 hl)), kitAny_cons (b := true) (kit_ty (by decide +kernel)) (fun z => by cases z) (fun _ => rfl), ?_⟩
  refine ⟨true, rfl, w_ff ?_⟩
  tm_at "sx"
  refine ⟨_, rs.length, rfl, .inl ⟨_, sl_of (Same.up s1 hl), by rw [List.length_map]⟩, ?_⟩
  tm_at "sx"
  refine ⟨_, rfl, ?_⟩
  rw [decide_eq_true (show (1 : Int) ≤ (rs.length : Int) by omega)]
  refine w_tt ?_
  tm_at "sx"
  rw [decide_eq_true h2]
  refine ⟨true, rfl, w_ff ?_⟩
  tm_at "sx"
  refine ⟨l, _, rfl, sl_of (Same.up s1 hl), ?_⟩
  refine for_enum (xs := rs.map fun r => V.str (txt r)) (fun i σ H' => (∃ o3 o4 : Option V, σ = [some (.ref l), some (.str (txt LET)), some (.int m), o3, o4]) ∧ Same H1 H')
    ⟨⟨none, none, rfl⟩, Same.refl _⟩ (fun i σ H' hI => sl_of (Same.up hI.2 (Same.up s1 hl))) (fun i x σ H' Tt H2 hx hI nT2 s2 e2 => ?_) (fun σ H' hI => ?_)
  · obtain ⟨⟨o3, o4, rfl⟩, sI⟩ := hI
    obtain ⟨r, hri, rfl⟩ := map_get hx
    obtain ⟨hrl, hrc⟩ := hr r (List.mem_of_getElem? hri)
    tm_at "sx"
    refine ⟨r, m, rfl, by omega, by omega, h3, hrc, fun H3 s3 => ⟨true, rfl, w_ff ?_⟩⟩
    tm_at "sx"
    have hl3 : H3 l = some (.lst (rs.map fun r => V.str (txt r))) := Same.up s3 (Same.up s2 (Same.up sI (Same.up s1 hl)))
    refine ⟨_, r.length, rfl, ⟨by show r.toArray.size ≤ sizeLine; rw [List.size_toArray]; omega, by show _ = r.toArray.size; rw [List.size_toArray]⟩, ?_⟩
    tm_at "sx"
    obtain ⟨r0, hr0⟩ : ∃ r0, rs[0]? = some r0 := ⟨rs[0], List.getElem?_eq_getElem (by omega)⟩
    obtain ⟨hrl0, _⟩ := hr r0 (List.mem_of_getElem? hr0)
    refine w_ixL (sl_of hl3) (atI_nat (j := 0) (by rw [List.getElem?_map, hr0]; rfl)) ?_
    tm_at "sx"
    refine ⟨_, r0.length, rfl, ⟨by show r0.toArray.size ≤ sizeLine; rw [List.size_toArray]; omega, by show _ = r0.toArray.size; rw [List.size_toArray]⟩, ?_⟩
    tm_at "sx"
    rw [decide_eq_true (show (r.length : Int) = (r0.length : Int) by omega)]
    refine ⟨false, rfl, w_ff ?_⟩
    exact ⟨⟨_, _, rfl⟩, Same.trans sI (Same.trans s2 s3)⟩
  · exact q H' (Same.trans s1 hI.2)
end
end Cp
set_option Elab.async false
set_option linter.all false
set_option maxRecDepth 100000
set_option maxHeartbeats 2000000
/-! F12: carpets made of rows, Carpet.on, Carpet.plain. -/
namespace Cp
open PySem PySem.Spec PyProof.Rows L2
local macro_rules | `(tactic| tm_at "fact") => `(tactic| first
  | assumption
  | (apply Same.up; · assumption
     tm_at "fact")
  | (apply Same.upS; · assumption
     tm_at "fact")
  | (apply Same.upL; · assumption
     tm_at "fact")
  | (apply sq_of; tm_at "fact")
  | (apply sl_of; tm_at "fact")
  | (apply Chg.up; · assumption
     · tm_at "fact"
     · exact fun z => nomatch z)
  | (apply Chg.upS; · assumption
     · tm_at "fact"
     · exact fun _ z => nomatch z
     · exact fun _ _ z => nomatch z))
local macro_rules | `(tactic| tm_at "same") => `(tactic| first
  | assumption
  | exact Same.refl _
  | (refine Same.trans ?_ ?_; rotate_left; · assumption
     tm_at "same"))
local macro_rules | `(tactic| tm_at "sx1") => `(tactic| with_reducible first
  | refine w_var rfl ?_
  | refine w_c ?_
  | refine w_op ?_
  | refine w_seq ?_
  | refine w_asg ?_
  | refine w_gname ?_
  | refine w_ret ?_
  | refine w_nil ?_
  | refine w_cons ?_
  | refine w_tup ?_
  | refine w_lst ?_
  | refine w_cb ?_
  | refine w_callR ?_
  | refine w_i0 ?_
  | refine w_gcons ?_
  | refine w_gnil ?_
  | refine w_test ?_
  | refine w_not ?_
  | refine w_ifs ?_
  | refine w_if ?_
  | refine w_expr ?_
  | refine w_eqI ?_
  | refine w_neI ?_
  | refine w_eqS ?_
  | refine w_neS ?_
  | refine w_or ?_
  | refine w_and ?_
  | refine w_par3 ?_
  | refine w_andV ?_
  | refine w_notV ?_
  | refine w_lcS ?_
  | refine w_forE ?_
  | refine w_m1 ?_
  | refine w_forL ?_
  | refine w_forR1 ?_
  | refine w_isN ?_
  | refine w_notN ?_
  | refine w_fld ?_
  | refine w_methR ?_
  | refine w_propR ?_
  | refine w_propA ?_
  | refine w_methA ?_
  | refine w_subA ?_
  | refine w_makeS ?_
  | refine w_fldS ?_
  | refine w_chain ?_
  | refine w_orV ?_
  | refine w_next ?_
  | refine w_tB ?_
  | refine w_lcL ?_
  | refine w_lcT ?_
  | refine w_lcR1 ?_
  | refine w_lcR2 ?_
  | refine w_turn ?_
  | refine w_yes ?_
  | refine w_par ?_
  | refine w_uI ?_
  | refine w_un ?_
  | refine w_one ?_)
local macro_rules | `(tactic| tm_at "at") => `(tactic| first | exact rfl | exact atI_nat rfl)
local macro_rules | `(tactic| tm_at "ix") => `(tactic| first
  | (with_reducible apply w_ixT; · tm_at "fact"
     · tm_at "at")
  | (with_reducible apply w_ixL; · tm_at "fact"
     · tm_at "at")
  | (with_reducible apply w_gtup; · tm_at "fact"
     · exact rfl))
local macro_rules | `(tactic| tm_at "sx") => `(tactic| repeat (first | tm_at "sx1" | tm_at "ix"))
theorem joinL0T : ∀ rs : List (List Nat), TL.joinL [] rs = rs.flatten
  | [] => rfl
  | [c] => by show c = c ++ []; rw [List.append_nil]
  | c :: d :: r => by
    show c ++ ([] ++ TL.joinL [] (d :: r)) = c ++ _
    rw [joinL0T (d :: r)]; rfl
theorem join0T (rs : List (List Nat)) : Txt.join (Str.ofString "") (rs.map txt) = txt rs.flatten := by
  have e := SX.join_S [] rs
  rw [joinL0T] at e
  exact e
theorem sumT (rs : List (List Nat)) : ((rs.map txt).map (·.length)).sum = rs.flatten.length := by
  induction rs with
  | nil => rfl
  | cons c r ih => rw [List.map_cons, List.map_cons, List.sum_cons, ih, List.flatten_cons, List.length_append]; rfl
theorem flat_len (wd : Nat) : ∀ rs : List (List Nat), (∀ r ∈ rs, r.length = wd) → rs.flatten.length = rs.length * wd
  | [], _ => by simp
  | c :: r, h => by
    rw [List.flatten_cons, List.length_append, flat_len wd r fun x hx => h x (List.mem_cons_of_mem _ hx), h c (List.mem_cons_self ..), List.length_cons]
    rw [Nat.succ_mul]; omega
section
variable {P : Program} {w : World} {K : PySem.W.Frag} {mg : Str → Option Value} {base : Heap}
/-- a block of rows -/
structure RowsOk (rs : List (List Nat)) (wd : Nat) : Prop where
  r1 : 1 ≤ rs.length
  r2 : rs.length ≤ 100
  w1 : 1 ≤ wd
  w2 : wd ≤ 100
  sz : rs.length * wd ≤ 1000
  all : ∀ r ∈ rs, r.length = wd ∧ ∀ c ∈ r, c ∈ LET
def netR (rs : List (List Nat)) (wd : Nat) (s : Int) : T3 := ((wd : Int), s % (wd : Int), (rs.length : Int))
theorem RowsOk.nok {rs : List (List Nat)} {wd : Nat} (h : RowsOk rs wd) (s : Int) : NOk (netR rs wd s) := by
  have := h.r1; have := h.w1; have hz := h.sz
  have hw : (0 : Int) < (wd : Int) := by omega
  refine ⟨by show (1 : Int) ≤ wd; omega, Int.emod_nonneg s (by omega), Int.emod_lt_of_pos s hw, by show (1 : Int) ≤ rs.length; omega, ?_⟩
  show (wd : Int) * (rs.length : Int) ≤ 4000
  have : ((rs.length * wd : Nat) : Int) ≤ 1000 := by omega
  rw [Int.natCast_mul] at this
  rw [Int.mul_comm]; omega
theorem RowsOk.tok {rs : List (List Nat)} {wd : Nat} (h : RowsOk rs wd) (s : Int) : TOk (netR rs wd s) rs.flatten := by
  refine ⟨h.nok s, ?_⟩
  rw [flat_len wd rs fun r hr => (h.all r hr).1, Int.natCast_mul, Int.mul_comm]; rfl
def sp_checked_block (K : PySem.W.Frag) : Sp := fun vs H Q _ => ∃ (l : Addr) (rs : List (List Nat)) (wd : Nat) (s : Int), vs = [.ref l, .int s] ∧ H l = some (.lst (rs.map fun r => V.str (txt r))) ∧ RowsOk rs wd ∧ -(2 ^ 60) ≤ s ∧ s < 2 ^ 60 ∧
  ∀ t o H', Same H H' → H' t = some (.tup [.ref o, .str (txt rs.flatten)]) → NetV K H' o (netR rs wd s) → Q (.ref t) H'
theorem ok_checked_block (T : Tx K mg) : FnR P w K mg base CX0 5 (He.ga K "checked_block") (sp_checked_block K) := by
  refine fnr_of T.f_checked_block sc_checked_block (fun _ _ _ _ _ _ us hl => match us, hl with | [_, _], _ => rfl) (fun vs H Q E h => by obtain ⟨_, _, _, _, rfl, _⟩ := h; rfl) (fun cdv A outer s H vs Q E hr h => ?_)
  have nd := sc_checked_block.nd
  refine ⟨_, (pss_cons (ps_expr (pe_callR (ok_check_rows T) (hr.mono (by decide)) rfl T.g_check_rows T.k_check_rows (pa_cons (pv 0) (pa_cons (pe_gstr rfl T.g_LETTERS) (pa_cons (pe_gint rfl T.g_MOST_ROWS) pa_nil)))))
    (pss_cons (ps_if (pt_cmpR op_gt (pe_op op_mul (pe_callB call_len rfl T.b_len bo_len (pa_cons (pv 0) pa_nil)) (pe_callB call_len rfl T.b_len bo_len (pa_cons (pe_ix ix_list (pv 0) pe_int (fun _ _ => rfl)) pa_nil))) (pe_gint rfl T.g_MOST_LETTERS) (nomark _)) (pss_one ps_never) pss_nil)
    (pss_cons (ps_if (pt_not (pt_val (pe_callR (ok_is_integer T) (hr.mono (by decide)) rfl T.g_is_integer T.k_is_integer (pa_cons (pv 1) pa_nil)))) (pss_one ps_never) pss_nil)
    (pss_cons (ps_set (i := 2) nd rfl (Or.inl rfl) (pe_callB call_len rfl T.b_len bo_len (pa_cons (pe_ix ix_list (pv 0) pe_int (fun _ _ => rfl)) pa_nil)))
    (pss_one (ps_ret (pe_tupS (pa_cons (pe_makeS T.mk_Net (ok_Net___init__ T) (hr.mono (by decide)) rfl T.g_Net (pa_cons (pv 2) (pa_cons (pe_op op_mod (pv 1) (pv 2)) (pa_cons (pe_callB call_len rfl T.b_len bo_len (pa_cons (pv 0) pa_nil)) pa_nil)))) (pa_cons (pe_join pe_str (pv 0)) pa_nil))))))))), ?_⟩
  try dsimp only [cxOf]
  obtain ⟨l, rs, wd, s, rfl, hl, ok, s1, s2, q⟩ := h
  have hr1 := ok.r1; have hr2 := ok.r2; have hw1 := ok.w1; have hw2 := ok.w2; have hz := ok.sz
  have hsl := sizeLine_eq
  tm_at "sx"
  rw [let_eq]
  refine ⟨l, rs, wd, 100, rfl, hl, hr1, by omega, hw1, by omega, by decide, ok.all, fun H1 e1 => ?_⟩
  tm_at "sx"
  obtain ⟨r0, hr0⟩ : ∃ r0, rs[0]? = some r0 := ⟨rs[0], List.getElem?_eq_getElem (by omega)⟩
  obtain ⟨hrl0, _⟩ := ok.all r0 (List.mem_of_getElem? hr0)
  have hl1 : H1 l = some (.lst (rs.map fun r => V.str (txt r))) := Same.up e1 hl
  refine ⟨.ref l, rs.length, rfl, .inl ⟨_, sl_of hl1, by rw [List.length_map]⟩, ?_⟩
  tm_at "sx"
  refine w_ixL (sl_of hl1) (atI_nat (j := 0) (by rw [List.getElem?_map, hr0]; rfl)) ?_
  tm_at "sx"
  refine ⟨_, r0.length, rfl, ⟨by show r0.toArray.size ≤ sizeLine; rw [List.size_toArray]; omega, by show _ = r0.toArray.size; rw [List.size_toArray]⟩, ?_⟩
  rw [hrl0]
  refine w_iC (by constructor <;> omega) ?_
  have hzi : (rs.length : Int) * (wd : Int) ≤ 1000 := by rw [← Int.natCast_mul]; omega
  tm_at "sx"
  refine ⟨_, rfl, ?_⟩
  rw [decide_eq_false (by omega)]
  refine w_ff ?_
  tm_at "sx"
  refine ⟨s, rfl, true, rfl, w_ff ?_⟩
  tm_at "sx"
  refine w_ixL (sl_of hl1) (atI_nat (j := 0) (by rw [List.getElem?_map, hr0]; rfl)) ?_
  tm_at "sx"
  refine ⟨_, r0.length, rfl, ⟨by show r0.toArray.size ≤ sizeLine; rw [List.size_toArray]; omega, by show _ = r0.toArray.size; rw [List.size_toArray]⟩, ?_⟩
  rw [hrl0]
  tm_at "sx"
  refine w_iC (show (0 : Int) < (wd : Int) by omega) ?_
  tm_at "sx"
  refine ⟨.ref l, rs.length, rfl, .inl ⟨_, sl_of hl1, by rw [List.length_map]⟩, ?_⟩
  tm_at "sx"
  intro x dx H2 h1 h2 hne s2 e2
  refine ⟨x, dx, netR rs wd s, rfl, e2, (ok.nok s).nv, fun H3 k3 n3 => ⟨rfl, ?_⟩⟩
  have s3 : Same H1 H3 := fun b u e => k3 b u (fun z => by subst z; rw [h1] at e; cases e) (s2 _ _ e)
  tm_at "sx"
  refine ⟨⟨_, rfl⟩, ?_⟩
  tm_at "sx"
  refine ⟨_, l, rs.map txt, rfl, rfl, .inl (sl_of (by rw [List.map_map]; exact s3 _ _ hl1)), ?_, ?_⟩
  · rw [sumT, flat_len wd rs fun r hr => (ok.all r hr).1]
    show _ + (rs.map txt).length * 0 ≤ _
    omega
  · rw [join0T]
    tm_at "sx"
    refine ⟨by show 2 ≤ sizeLine; decide, fun t' H4 nt s4 e4 => ?_⟩
    exact q t' x H4 (Same.trans e1 (Same.trans s3 s4)) e4 (n3.up s4)
end
end Cp
set_option Elab.async false
set_option linter.all false
set_option maxRecDepth 100000
set_option maxHeartbeats 2000000
/-! F13: Carpet(rows, shift = s), Carpet.on, Carpet.plain. -/
namespace Cp
open PySem PySem.Spec PyProof.Rows L2
local macro_rules | `(tactic| tm_at "fact") => `(tactic| first
  | assumption
  | (apply Same.up; · assumption
     tm_at "fact")
  | (apply Same.upS; · assumption
     tm_at "fact")
  | (apply Same.upL; · assumption
     tm_at "fact")
  | (apply sq_of; tm_at "fact")
  | (apply sl_of; tm_at "fact")
  | (apply Chg.up; · assumption
     · tm_at "fact"
     · exact fun z => nomatch z)
  | (apply Chg.upS; · assumption
     · tm_at "fact"
     · exact fun _ z => nomatch z
     · exact fun _ _ z => nomatch z))
local macro_rules | `(tactic| tm_at "same") => `(tactic| first
  | assumption
  | exact Same.refl _
  | (refine Same.trans ?_ ?_; rotate_left; · assumption
     tm_at "same"))
local macro_rules | `(tactic| tm_at "sx1") => `(tactic| with_reducible first
  | refine w_var rfl ?_
  | refine w_c ?_
  | refine w_op ?_
  | refine w_seq ?_
  | refine w_asg ?_
  | refine w_gname ?_
  | refine w_ret ?_
  | refine w_nil ?_
  | refine w_cons ?_
  | refine w_tup ?_
  | refine w_lst ?_
  | refine w_cb ?_
  | refine w_callR ?_
  | refine w_i0 ?_
  | refine w_gcons ?_
  | refine w_gnil ?_
  | refine w_test ?_
  | refine w_not ?_
  | refine w_ifs ?_
  | refine w_if ?_
  | refine w_expr ?_
  | refine w_eqI ?_
  | refine w_neI ?_
  | refine w_eqS ?_
  | refine w_neS ?_
  | refine w_or ?_
  | refine w_and ?_
  | refine w_par3 ?_
  | refine w_andV ?_
  | refine w_notV ?_
  | refine w_lcS ?_
  | refine w_forE ?_
  | refine w_m1 ?_
  | refine w_forL ?_
  | refine w_forR1 ?_
  | refine w_isN ?_
  | refine w_notN ?_
  | refine w_fld ?_
  | refine w_methR ?_
  | refine w_propR ?_
  | refine w_propA ?_
  | refine w_methA ?_
  | refine w_subA ?_
  | refine w_makeS ?_
  | refine w_fldS ?_
  | refine w_chain ?_
  | refine w_orV ?_
  | refine w_next ?_
  | refine w_tB ?_
  | refine w_lcL ?_
  | refine w_lcT ?_
  | refine w_lcR1 ?_
  | refine w_lcR2 ?_
  | refine w_turn ?_
  | refine w_yes ?_
  | refine w_par ?_
  | refine w_uI ?_
  | refine w_un ?_
  | refine w_one ?_)
local macro_rules | `(tactic| tm_at "at") => `(tactic| first | exact rfl | exact atI_nat rfl)
local macro_rules | `(tactic| tm_at "ix") => `(tactic| first
  | (with_reducible apply w_ixT; · tm_at "fact"
     · tm_at "at")
  | (with_reducible apply w_ixL; · tm_at "fact"
     · tm_at "at")
  | (with_reducible apply w_gtup; · tm_at "fact"
     · exact rfl))
local macro_rules | `(tactic| tm_at "sx") => `(tactic| repeat (first | tm_at "sx1" | tm_at "ix"))
section
variable {P : Program} {w : World} {K : PySem.W.Frag} {mg : Str → Option Value} {base : Heap}
def sp_Carpet___init__ (K : PySem.W.Frag) : Sp := fun vs H Q _ => ∃ (o C dx l : Addr) (rs : List (List Nat)) (wd : Nat) (s : Int), vs = [.ref o, .ref l, .int s] ∧ CarC K C ∧ H o = some (.ins C dx []) ∧ H l = some (.lst (rs.map fun r => V.str (txt r))) ∧ RowsOk rs wd ∧ -(2 ^ 60) ≤ s ∧ s < 2 ^ 60 ∧
  ∀ m H', (∀ a u, a ≠ o → H a = some u → H' a = some u) → CarV K H' o C m (reText (netR rs wd s) rs.flatten m) → KeptR (netR rs wd s) rs.flatten m → Q .non H'
theorem ok_Carpet___init__ (T : Tx K mg) {fd : FuncData} (F : FunD K "__init__" "Carpet.__init__" (defArgs sCarpet___init__) (defBody sCarpet___init__) (defScope sCarpet___init__) [] [("shift", .int 0)] (He.ma K (He.ga K "Carpet") "__init__") fd) :
    FnOk P w K mg base CX0 7 (He.ma K (He.ga K "Carpet") "__init__") fd PCarpet___init__ (sp_Carpet___init__ K) := by
  refine F.ok sc_Carpet___init__ (fun vs H Q E h => by obtain ⟨_, _, _, _, _, _, _, rfl, _⟩ := h; rfl) (fun cdv A outer s0 H vs Q E hr h => ?_)
  have nd := sc_Carpet___init__.nd
  refine (fun ⟨t, h, q⟩ => ⟨t, PSs.nox h, q⟩ : (∃ t, PSs (cxOf CX0 P w K mg base NCarpet___init__ _ (defScope sCarpet___init__) _ cdv A outer s0 H E).nox (defBody sCarpet___init__) t ∧ t { nx := fun _ H' => Q .non H', rt := Q } (start NCarpet___init__ vs) H) → _) ?_
  refine ⟨_, (pss_cons (ps_asg (pe_callR (ok_checked_block T) (hr.mono (by decide)) rfl T.g_checked_block T.k_checked_block (pa_cons (pv 1) (pa_cons (pv 2) pa_nil))) (pg_tup rfl (pgs_cons (pg_name (i := 3) nd rfl (Or.inl rfl)) (pgs_cons (pg_name (i := 4) nd rfl (Or.inl rfl)) pgs_nil))))
    (pss_one (ps_asg (pe_callR (ok_least_cell T) (hr.mono (by decide)) rfl T.g_least_cell T.k_least_cell (pa_cons (pv 3) (pa_cons (pv 4) pa_nil))) (pg_tup rfl (pgs_cons (pg_attrS (pv 0)) (pgs_cons (pg_attrS (pv 0)) pgs_nil)))))), ?_⟩
  try dsimp only [cxOf]
  obtain ⟨o, C, dx, l, rs, wd, s, rfl, hC, ho, hl, ok, s1, s2, q⟩ := h
  obtain ⟨c1, n1, n2⟩ := T.carC hC
  tm_at "sx"
  refine ⟨l, rs, wd, s, rfl, hl, ok, s1, s2, fun t b H1 k1 e1 hb => ?_⟩
  tm_at "sx"
  refine ⟨b, _, _, rfl, hb, ok.tok s, fun t o' m H2 k2 e2 hm mok hk => ?_⟩
  tm_at "sx"
  refine ⟨_, rfl, o, C, dx, [], rfl, k2 _ _ (k1 _ _ ho), c1, n1, by decide, fun H3 k3 e3 => ?_⟩
  tm_at "sx"
  refine ⟨_, rfl, o, C, dx, _, rfl, e3, c1, n2, by show 1 < 1000; decide, fun H4 k4 e4 => ?_⟩
  tm_at "sx"
  have hne : ∀ {a : Addr} {u : HO}, H2 a = some u → a ≠ o → H4 a = some u := fun {a u} h z => k4.2 a u z (k3.2 a u z h)
  refine q m H4 (fun a u z h => hne (k2 _ _ (k1 _ _ h)) z) ⟨dx, o', e4, ?_, reText_ok _ _ mok⟩ hk
  obtain ⟨dx', t', h1, h2⟩ := hm
  have ho1 := k2 _ _ (k1 _ _ ho)
  refine ⟨dx', t', hne h1 (fun z => ?_), hne h2 (ne_of h2 ho1 (fun z => nomatch z))⟩
  subst z
  rw [ho1] at h1
  cases h1
/-- Carpet(rows, shift = s) -/
def tMakeCK (K : PySem.W.Frag) (t : TA) (tv : TE) : TE := fun σ H Q => t σ H fun vs H1 => tv σ H1 fun y H2 => vs.length = 1 ∧ ∀ x dx H3, H2 x = none → H2 dx = none → dx ≠ x → Same H2 H3 → H3 x = some (.ins (He.ga K "Carpet") dx []) → sp_Carpet___init__ K (V.ref x :: vs ++ [y]) H3 (fun v H4 => v = .non ∧ Q (.ref x) H4) E0
theorem w_makeCK {t : TA} {tv : TE} {σ : L2.St} {H : Hp} {Q : VK} (q : t σ H fun vs H1 => tv σ H1 fun y H2 => vs.length = 1 ∧ ∀ x dx H3, H2 x = none → H2 dx = none → dx ≠ x → Same H2 H3 → H3 x = some (.ins (He.ga K "Carpet") dx []) → sp_Carpet___init__ K (V.ref x :: vs ++ [y]) H3 (fun v H4 => v = .non ∧ Q (.ref x) H4) E0) : tMakeCK K t tv σ H Q := q
end
theorem pe_makeCK {X : Cx} {pos p kpos : Pos} {e v : Expr} {es : List Expr} {t : TA} {tv : TE} (T : Tx X.K X.mg) (hr : Room (7 + 1) X.A) (ha : PA X (e :: es) t) (hv : PE X v tv) (hg : Gl X "Carpet" := by rfl)
    (hall : (backToKw pos (keywordEach [⟨some "shift", v, kpos⟩] X.env)).all (·.1.isSome) = true := by rfl) (hks : (backToKw pos (keywordEach [⟨some "shift", v, kpos⟩] X.env)).filterMap (·.1) = [("shift" : Str)] := by rfl)
    (he : starEach (e :: es) X.env = (false, eval e X.env) :: starEach es X.env := by rfl) (hpl : ((backTo pos (starEach (e :: es) X.env)).any (·.1) || (backToKw pos (keywordEach [⟨some "shift", v, kpos⟩] X.env)).any (·.1.isNone)) = false := by rfl) :
    PE X (.Call (.Name "Carpet" p) (e :: es) [⟨some "shift", v, kpos⟩] pos) (tMakeCK X.K t tv) := by
  obtain ⟨fd, F⟩ := T.f_Carpet___init__
  obtain ⟨mv, B⟩ := F.kbinds0 (ps := PCarpet___init__) 2 [("shift" : Str)] [] (fun us _ ws => us ++ ws) (by decide) (fun q hq => nomatch hq) (fun r1 _ r3 => r1.append r3)
    (fun D doc pm an cdv ct us mv ws l1 l2 l3 => match us, ws, l1, l3 with | [_, _], [_], _, _ => rfl)
  refine ⟨fun pins s σ H Q I h => ?_⟩
  refine wpAny_Call_Name_kw (ld_glob I hg T.g_Carpet ?_ (by decide))
  refine PySem.W.callWith_KW (h₀ := X.base) I.ok.mod.kin T.mk_Carpet.kp hall (thn (ha.run pos pins s σ H _ I h) fun us s1 ⟨vs, H1, I1, r, q⟩ => ?_) hpl he
  refine thn ((pk_cons (nm := some ("shift" : Str)) (kpos := kpos) hv pk_nil).run pos pins s1 σ H1 (fun zs H2 => match zs with | [y] => vs.length = 1 ∧ ∀ x dx H3, H2 x = none → H2 dx = none → dx ≠ x → Same H2 H3 → H3 x = some (.ins (He.ga X.K "Carpet") dx []) → sp_Carpet___init__ X.K (V.ref x :: vs ++ [y]) H3 (fun v H4 => v = .non ∧ Q (.ref x) H4) E0 | _ => False) I1 q) fun ws s2 ⟨zs, H2, I2, rz, q2⟩ => ⟨I2.kIn, ?_⟩
  rw [hks]
  match zs, q2, rz with
  | [y], ⟨l1, q2⟩, rz => exact run_makeK (n := 1) (ks := [("shift" : Str)]) T.mk_Carpet (ok_Carpet___init__ T F) hr B pass0 I2 r rz l1 rfl fun x dx hx hdx hne => q2 x dx _ hx hdx hne (same_made hx hdx hne) upd_same
end Cp
set_option Elab.async false
set_option linter.all false
set_option maxRecDepth 100000
set_option maxHeartbeats 2000000
/-! F14: Carpet.on, Carpet.plain. -/
namespace Cp
open PySem PySem.Spec PyProof.Rows L2
local macro_rules | `(tactic| tm_at "fact") => `(tactic| first
  | assumption
  | (apply Same.up; · assumption
     tm_at "fact")
  | (apply Same.upS; · assumption
     tm_at "fact")
  | (apply Same.upL; · assumption
     tm_at "fact")
  | (apply sq_of; tm_at "fact")
  | (apply sl_of; tm_at "fact")
  | (apply Chg.up; · assumption
     · tm_at "fact"
     · exact fun z => nomatch z)
  | (apply Chg.upS; · assumption
     · tm_at "fact"
     · exact fun _ z => nomatch z
     · exact fun _ _ z => nomatch z))
local macro_rules | `(tactic| tm_at "same") => `(tactic| first
  | assumption
  | exact Same.refl _
  | (refine Same.trans ?_ ?_; rotate_left; · assumption
     tm_at "same"))
local macro_rules | `(tactic| tm_at "sx1") => `(tactic| with_reducible first
  | refine w_var rfl ?_
  | refine w_c ?_
  | refine w_op ?_
  | refine w_seq ?_
  | refine w_asg ?_
  | refine w_gname ?_
  | refine w_ret ?_
  | refine w_nil ?_
  | refine w_cons ?_
  | refine w_tup ?_
  | refine w_lst ?_
  | refine w_cb ?_
  | refine w_callR ?_
  | refine w_i0 ?_
  | refine w_gcons ?_
  | refine w_gnil ?_
  | refine w_test ?_
  | refine w_not ?_
  | refine w_ifs ?_
  | refine w_if ?_
  | refine w_expr ?_
  | refine w_eqI ?_
  | refine w_neI ?_
  | refine w_eqS ?_
  | refine w_neS ?_
  | refine w_or ?_
  | refine w_and ?_
  | refine w_par3 ?_
  | refine w_andV ?_
  | refine w_notV ?_
  | refine w_lcS ?_
  | refine w_forE ?_
  | refine w_m1 ?_
  | refine w_forL ?_
  | refine w_forR1 ?_
  | refine w_isN ?_
  | refine w_notN ?_
  | refine w_fld ?_
  | refine w_methR ?_
  | refine w_propR ?_
  | refine w_propA ?_
  | refine w_methA ?_
  | refine w_subA ?_
  | refine w_makeS ?_
  | refine w_fldS ?_
  | refine w_chain ?_
  | refine w_orV ?_
  | refine w_next ?_
  | refine w_tB ?_
  | refine w_lcL ?_
  | refine w_lcT ?_
  | refine w_lcR1 ?_
  | refine w_lcR2 ?_
  | refine w_turn ?_
  | refine w_yes ?_
  | refine w_par ?_
  | refine w_uI ?_
  | refine w_un ?_
  | refine w_one ?_)
local macro_rules | `(tactic| tm_at "at") => `(tactic| first | exact rfl | exact atI_nat rfl)
local macro_rules | `(tactic| tm_at "ix") => `(tactic| first
  | (with_reducible apply w_ixT; · tm_at "fact"
     · tm_at "at")
  | (with_reducible apply w_ixL; · tm_at "fact"
     · tm_at "at")
  | (with_reducible apply w_gtup; · tm_at "fact"
     · exact rfl))
local macro_rules | `(tactic| tm_at "sx") => `(tactic| repeat (first | tm_at "sx1" | tm_at "ix"))
section
variable {P : Program} {w : World} {K : PySem.W.Frag} {mg : Str → Option Value} {base : Heap}
theorem made_same {H H1 H2 H3 : Hp} {x : Addr} (h : H1 x = none) (s : Same H1 H2) (k : ∀ a u, a ≠ x → H2 a = some u → H3 a = some u) : Same H1 H3 := fun b u e => k b u (fun z => by subst z; rw [h] at e; cases e) (s _ _ e)
def sp_Carpet_on (K : PySem.W.Frag) : Sp := fun vs H Q _ => ∃ (b : Addr) (n : T3) (L : List Nat), vs = [.ref b, .str (txt L)] ∧ NetV K H b n ∧ TOk n L ∧ n.1 * n.2.2 ≤ 2000 ∧ (∀ c ∈ L, c ∈ LET) ∧
  ∀ o m H', Same H H' → CarV K H' o (He.ga K "Woven") m (reText n L m) → KeptR n L m → Q (.ref o) H'
theorem ok_Carpet_on (T : Tx K mg) : FnR P w K mg base CX0 9 (He5.wf K (He.ga K "Carpet") "staticmethod" "on") (sp_Carpet_on K) := by
  refine fnr_of T.f_Carpet_on sc_Carpet_on (fun _ _ _ _ _ _ us hl => match us, hl with | [_, _], _ => rfl) (fun vs H Q E h => by obtain ⟨_, _, _, rfl, _⟩ := h; rfl) (fun cdv A outer s H vs Q E hr h => ?_)
  have nd := sc_Carpet_on.nd
  refine ⟨_, (pss_cons (ps_if (pt_cmpR op_gt (pe_propR (pv 0) T.c_Net T.p_Net_size (ok_Net_size T) (hr.mono (by decide))) (pe_gint rfl T.g_MOST_PLACES) (nomark _)) (pss_one ps_never) pss_nil)
    (pss_cons (ps_if (PW.pt (pw_or (pt_not (pt_val (pe_callR (ok_is_row T) (hr.mono (by decide)) rfl T.g_is_row T.k_is_row (pa_cons (pv 1) (pa_cons (pe_gstr rfl T.g_LETTERS) (pa_cons (pe_gint rfl T.g_MOST_PLACES) pa_nil)))))) (pw_or1 (pt_cmpR op_ne (pe_callB call_len rfl T.b_len bo_len (pa_cons (pv 1) pa_nil)) (pe_propR (pv 0) T.c_Net T.p_Net_size (ok_Net_size T) (hr.mono (by decide))) (nomark _))))) (pss_one ps_never) pss_nil)
    (pss_one (ps_ret (pe_makeS T.mk_Woven (ok_Woven___init__ T) (hr.mono (by decide)) rfl T.g_Woven (pa_cons (pv 0) (pa_cons (pv 1) pa_nil))))))), ?_⟩
  try dsimp only [cxOf]
  obtain ⟨b, n, L, rfl, hn, ok, hz, hL, q⟩ := h
  have hsl := sizeLine_eq
  obtain ⟨dx, t, hb, ht⟩ := id hn
  have hlen : (L.length : Int) = n.1 * n.2.2 := ok.len
  have h1 := ok.net.a1
  have h2 := ok.net.c1
  have h3 : 1 ≤ n.1 * n.2.2 := by have := Int.mul_le_mul h1 h2 (by decide) (by omega); omega
  tm_at "sx"
  refine ⟨b, dx, _, rfl, hb, b, n, rfl, hn, ok.net, ?_⟩
  tm_at "sx"
  refine ⟨_, rfl, ?_⟩
  rw [decide_eq_false (by omega)]
  refine w_ff ?_
  tm_at "sx"
  rw [let_eq]
  refine ⟨L, 2000, rfl, by omega, by omega, by decide, hL, fun H1 s1 => ⟨true, rfl, w_ff ?_⟩⟩
  tm_at "sx"
  refine ⟨_, L.length, rfl, ⟨by show L.toArray.size ≤ sizeLine; rw [List.size_toArray]; omega, by show _ = L.toArray.size; rw [List.size_toArray]⟩, ?_⟩
  tm_at "sx"
  refine ⟨b, dx, _, rfl, Same.up s1 hb, b, n, rfl, hn.up s1, ok.net, ?_⟩
  tm_at "sx"
  rw [decide_eq_true hlen]
  refine ⟨false, rfl, w_ff ?_⟩
  tm_at "sx"
  intro x dx' H2 nx ndx hne s2 e2
  refine ⟨x, _, dx', b, n, L, rfl, .inr rfl, e2, hn.up (Same.trans s1 s2), ok, fun m H3 k3 cv hk => ⟨rfl, q x m H3 (Same.trans s1 (made_same (H := H) nx s2 k3)) cv hk⟩⟩
def sp_Carpet_plain (K : PySem.W.Frag) : Sp := fun vs H Q _ => ∃ (C : Addr) (c : Nat), vs = [.ref C, .str (one1 c)] ∧ c ∈ LET ∧
  ∀ o m H', Same H H' → CarV K H' o (He.ga K "Woven") m (reText (1, 0, 1) [c] m) → KeptR (1, 0, 1) [c] m → Q (.ref o) H'
theorem ok_Carpet_plain (T : Tx K mg) : FnR P w K mg base CX0 9 (He5.wf K (He.ga K "Carpet") "classmethod" "plain") (sp_Carpet_plain K) := by
  refine fnr_of T.f_Carpet_plain sc_Carpet_plain (fun _ _ _ _ _ _ us hl => match us, hl with | [_, _], _ => rfl) (fun vs H Q E h => by obtain ⟨_, _, rfl, _⟩ := h; rfl) (fun cdv A outer s H vs Q E hr h => ?_)
  have nd := sc_Carpet_plain.nd
  refine ⟨_, (pss_cons (ps_expr (pe_callR (ok_check_colour T) (hr.mono (by decide)) rfl T.g_check_colour T.k_check_colour (pa_cons (pv 1) pa_nil)))
    (pss_one (ps_ret (pe_makeS T.mk_Woven (ok_Woven___init__ T) (hr.mono (by decide)) rfl T.g_Woven (pa_cons (pe_cmeth0 (pe_glob (v := .ref _) rfl T.g_Net rfl) T.cr_Net T.m_Net_whole (ok_Net_whole T) (hr.mono (by decide))) (pa_cons (pv 1) pa_nil)))))), ?_⟩
  try dsimp only [cxOf]
  obtain ⟨C, c, rfl, hc, q⟩ := h
  tm_at "sx"
  refine ⟨c, rfl, hc, ?_⟩
  tm_at "sx"
  refine ⟨rfl, rfl, fun b H1 s1 hb => ?_⟩
  tm_at "sx"
  intro x dx' H2 nx ndx hne s2 e2
  refine ⟨x, _, dx', b, (1, 0, 1), [c], rfl, .inr rfl, e2, hb.up s2, ⟨⟨by decide, by decide, by decide, by decide, by decide⟩, rfl⟩, fun m H3 k3 cv hk => ⟨rfl, q x m H3 (Same.trans s1 (made_same (H := H) nx s2 k3)) cv hk⟩⟩
end
end Cp
set_option Elab.async false
set_option linter.all false
set_option maxRecDepth 100000
set_option maxHeartbeats 2000000
/-! F15: parts as objects. -/
namespace Cp
open PySem PySem.Spec PyProof.Rows L2
local macro_rules | `(tactic| tm_at "fact") => `(tactic| first
  | assumption
  | (apply Same.up; · assumption
     tm_at "fact")
  | (apply Same.upS; · assumption
     tm_at "fact")
  | (apply Same.upL; · assumption
     tm_at "fact")
  | (apply sq_of; tm_at "fact")
  | (apply sl_of; tm_at "fact")
  | (apply Chg.up; · assumption
     · tm_at "fact"
     · exact fun z => nomatch z)
  | (apply Chg.upS; · assumption
     · tm_at "fact"
     · exact fun _ z => nomatch z
     · exact fun _ _ z => nomatch z))
local macro_rules | `(tactic| tm_at "same") => `(tactic| first
  | assumption
  | exact Same.refl _
  | (refine Same.trans ?_ ?_; rotate_left; · assumption
     tm_at "same"))
local macro_rules | `(tactic| tm_at "sx1") => `(tactic| with_reducible first
  | refine w_var rfl ?_
  | refine w_c ?_
  | refine w_op ?_
  | refine w_seq ?_
  | refine w_asg ?_
  | refine w_gname ?_
  | refine w_ret ?_
  | refine w_nil ?_
  | refine w_cons ?_
  | refine w_tup ?_
  | refine w_lst ?_
  | refine w_cb ?_
  | refine w_callR ?_
  | refine w_i0 ?_
  | refine w_gcons ?_
  | refine w_gnil ?_
  | refine w_test ?_
  | refine w_not ?_
  | refine w_ifs ?_
  | refine w_if ?_
  | refine w_expr ?_
  | refine w_eqI ?_
  | refine w_neI ?_
  | refine w_eqS ?_
  | refine w_neS ?_
  | refine w_or ?_
  | refine w_and ?_
  | refine w_par3 ?_
  | refine w_andV ?_
  | refine w_notV ?_
  | refine w_lcS ?_
  | refine w_forE ?_
  | refine w_m1 ?_
  | refine w_forL ?_
  | refine w_forR1 ?_
  | refine w_isN ?_
  | refine w_notN ?_
  | refine w_fld ?_
  | refine w_methR ?_
  | refine w_propR ?_
  | refine w_propA ?_
  | refine w_methA ?_
  | refine w_subA ?_
  | refine w_makeS ?_
  | refine w_fldS ?_
  | refine w_chain ?_
  | refine w_orV ?_
  | refine w_next ?_
  | refine w_tB ?_
  | refine w_lcL ?_
  | refine w_lcT ?_
  | refine w_lcR1 ?_
  | refine w_lcR2 ?_
  | refine w_turn ?_
  | refine w_yes ?_
  | refine w_par ?_
  | refine w_uI ?_
  | refine w_un ?_
  | refine w_one ?_)
local macro_rules | `(tactic| tm_at "at") => `(tactic| first | exact rfl | exact atI_nat rfl)
local macro_rules | `(tactic| tm_at "ix") => `(tactic| first
  | (with_reducible apply w_ixT; · tm_at "fact"
     · tm_at "at")
  | (with_reducible apply w_ixL; · tm_at "fact"
     · tm_at "at")
  | (with_reducible apply w_gtup; · tm_at "fact"
     · exact rfl))
local macro_rules | `(tactic| tm_at "sx") => `(tactic| repeat (first | tm_at "sx1" | tm_at "ix"))
/-- the basis as data -/
def BasL (H : Hp) (t : Addr) (bas : List (Int × Int)) : Prop := ∃ us, H t = some (.tup us) ∧ Ps H us bas
theorem BasL.up {H H' : Hp} {t : Addr} {bas : List (Int × Int)} (s : Same H H') (h : BasL H t bas) : BasL H' t bas := let ⟨us, h1, h2⟩ := h; ⟨us, s _ _ h1, h2.same s⟩
/-- what a basis tells of the shifts -/
def BasP (B : Nat) (ps bas : List (Int × Int)) : Prop :=
  (bas = [] ∧ ∀ p ∈ ps, p = (0, 0)) ∨
  (∃ v : Int × Int, bas = [v] ∧ v ≠ (0, 0) ∧ v.1.natAbs ≤ B ∧ v.2.natAbs ≤ B ∧ (∃ p ∈ ps, p ≠ (0, 0)) ∧ ∀ p ∈ ps, ∃ k : Int, p = (k * v.1, k * v.2)) ∨
  ∃ n : T3, bas = [(n.1, 0), (n.2.1, n.2.2)] ∧ 1 ≤ n.1 ∧ 0 ≤ n.2.1 ∧ n.2.1 < n.1 ∧ 1 ≤ n.2.2 ∧ n.2.2 ≤ B ∧ (∃ p ∈ ps, p ≠ (0, 0)) ∧ ∀ p ∈ ps, Lat n.1 n.2.1 n.2.2 p
theorem BasV.split {H : Hp} {t : Addr} {B : Nat} {ps : List (Int × Int)} (h : BasV H t B ps) : ∃ bas, BasL H t bas ∧ BasP B ps bas := by
  rcases h with ⟨h1, h2⟩ | ⟨b, v, h1, h2, h3⟩ | ⟨b, c, n, h1, h2, h3, h4⟩
  · exact ⟨[], ⟨_, h1, .nil⟩, .inl ⟨rfl, h2⟩⟩
  · exact ⟨[v], ⟨_, h1, .cons ⟨b, rfl, h2⟩ .nil⟩, .inr (.inl ⟨v, rfl, h3⟩)⟩
  · exact ⟨_, ⟨_, h1, .cons ⟨b, rfl, h2⟩ (.cons ⟨c, rfl, h3⟩ .nil)⟩, .inr (.inr ⟨n, rfl, h4⟩)⟩
theorem BasP.nil {B : Nat} {ps bas : List (Int × Int)} (h : BasP B ps bas) : bas = [] ↔ ∀ p ∈ ps, p = (0, 0) := by
  rcases h with ⟨h1, h2⟩ | ⟨v, h1, h2, h3, h4, ⟨p, hp, hz⟩, h5⟩ | ⟨n, h1, h2, h3, h4, h5, h6, ⟨p, hp, hz⟩, h7⟩
  · exact ⟨fun _ => h2, fun _ => h1⟩
  · exact ⟨fun z => absurd (h1.symm.trans z) (by simp), fun z => absurd (z p hp) hz⟩
  · exact ⟨fun z => absurd (h1.symm.trans z) (by simp), fun z => absurd (z p hp) hz⟩
theorem lat_low {n : T3} (h : NV n) {p : Int × Int} (l : Lat n.1 n.2.1 n.2.2 p) : low n p = (0, 0) := by
  obtain ⟨u, v, rfl⟩ := l
  have h1 := h.c1
  have e : v * n.2.2 / n.2.2 = v := Int.mul_ediv_cancel v (by omega)
  unfold low
  rw [show ((u * n.1 + v * n.2.1, v * n.2.2) : Int × Int).2 = v * n.2.2 from rfl, show ((u * n.1 + v * n.2.1, v * n.2.2) : Int × Int).1 = u * n.1 + v * n.2.1 from rfl, e]
  refine Prod.ext ?_ ?_
  · show (u * n.1 + v * n.2.1 - v * n.2.1) % n.1 = 0
    rw [Int.add_sub_cancel]; exact Int.mul_emod_left u n.1
  · show v * n.2.2 - v * n.2.2 = 0; omega
section
variable {K : PySem.W.Frag} {H : Hp} {Q : VK}
theorem plT_shaped (ps : List (Int × Int)) : SeqAt.shaped (.tuple (ps.map plD)) = true := by
  have h1 := plDs_depth ps
  have h2 : PyData.depth (.tuple (ps.map plD)) ≤ 64 := by
    simp only [PyData.depth]
    omega
  show (PyData.canLay0 (.tuple (ps.map plD)) && decide (PyData.depth (.tuple (ps.map plD)) ≤ 64)) = true
  rw [Bool.and_eq_true]
  exact ⟨by simp only [PyData.canLay0]; exact plDs_lay ps, decide_eq_true h2⟩
theorem w_eqB0 {a b : Addr} {bas : List (Int × Int)} (ha : BasL H a bas) (hb : H b = some (.tup [])) (q : Q (.bl (decide (bas = []))) H) : rEqD K (.ref a) (.ref b) H Q := by
  obtain ⟨us, h1, h2⟩ := ha
  refine ⟨.tuple (bas.map plD), .tuple [], .tup (sq_of h1) h2.dps, .tup (sq_of hb) .nil, plT_shaped _, plT_shaped [], ?_⟩
  · have e : PyData.eqv (.tuple (bas.map plD)) (.tuple []) = decide (bas = []) := by
      cases bas with
      | nil => simp [PyData.eqv, PyData.eqvAll]
      | cons p r => simp [PyData.eqv, PyData.eqvAll]
    rw [e]; exact q
end
section
variable {P : Program} {w : World} {K : PySem.W.Frag} {mg : Str → Option Value} {base : Heap}
/-- a Part object -/
def PartV (K : PySem.W.Frag) (H : Hp) (o : Addr) (c : Nat) (st kn : Addr) (num : Int) (bas : List (Int × Int)) (bd : Int) : Prop :=
  ∃ dx bs, H o = some (.ins (He.ga K "Part") dx [("own_colour", .str (one1 c)), ("own_start", .ref st), ("known", .ref kn), ("own_places", .int num), ("own_basis", .ref bs), ("own_border", .int bd)]) ∧ BasL H bs bas
theorem PartV.up {H H' : Hp} {o : Addr} {c : Nat} {st kn : Addr} {num : Int} {bas : List (Int × Int)} {bd : Int} (s : Same H H') (h : PartV K H o c st kn num bas bd) : PartV K H' o c st kn num bas bd := let ⟨dx, bs, h1, h2⟩ := h; ⟨dx, bs, s _ _ h1, h2.up s⟩
def sp_Part___init__ (K : PySem.W.Frag) : Sp := fun vs H Q _ => ∃ (o dx : Addr) (c : Nat) (st kn sh : Addr) (bd : Int) (kvs : List (List Key × V)) (us : List V) (ps : List (Int × Int)) (B : Nat), vs = [.ref o, .str (one1 c), .ref st, .ref kn, .ref sh, .int bd] ∧ H o = some (.ins (He.ga K "Part") dx []) ∧ H kn = some (.dT kvs) ∧ H sh = some (.lst us) ∧ Ps H us ps ∧ B < 1000000 ∧ (∀ p ∈ ps, p.1.natAbs ≤ B ∧ p.2.natAbs ≤ B) ∧
  ∀ bas H', (∀ a u, a ≠ o → H a = some u → H' a = some u) → PartV K H' o c st kn kvs.length bas bd → BasP B ps bas → Q .non H'
theorem ok_Part___init__ (T : Tx K mg) : FnR P w K mg base CX0 4 (He.ma K (He.ga K "Part") "__init__") (sp_Part___init__ K) := by
  refine fnr_of T.f_Part___init__ sc_Part___init__ (fun _ _ _ _ _ _ us hl => match us, hl with | [_, _, _, _, _, _], _ => rfl) (fun vs H Q E h => by obtain ⟨_, _, _, _, _, _, _, _, _, _, _, rfl, _⟩ := h; rfl) (fun cdv A outer s H vs Q E hr h => ?_)
  have nd := sc_Part___init__.nd
  refine ⟨_, (pss_cons (ps_fldS (pv 0) (pv 1) rfl)
    (pss_cons (ps_fldS (pv 0) (pv 2) rfl)
    (pss_cons (ps_fldS (pv 0) (pv 3) rfl)
    (pss_cons (ps_fldS (pv 0) (pe_callB call_len_dT rfl T.b_len bo_len (pa_cons (pv 3) pa_nil)) rfl)
    (pss_cons (ps_fldS (pv 0) (pe_callR (ok_basis_of T) (hr.mono (by decide)) rfl T.g_basis_of T.k_basis_of (pa_cons (pv 4) pa_nil)) rfl)
    (pss_one (ps_fldS (pv 0) (pv 5) rfl))))))), ?_⟩
  try dsimp only [cxOf]
  obtain ⟨o, dx, c, st, kn, sh, bd, kvs, us, ps, B, rfl, ho, hk, hs, hps, hB, hb, q⟩ := h
  have n1 : kn ≠ o := fun z => by subst z; rw [ho] at hk; cases hk
  have n2 : sh ≠ o := fun z => by subst z; rw [ho] at hs; cases hs
  tm_at "sx"
  refine ⟨o, _, dx, _, rfl, ho, T.c_Part, T.n_Part_own_colour, by decide, fun H1 k1 e1 => ?_⟩
  tm_at "sx"
  refine ⟨o, _, dx, _, rfl, e1, T.c_Part, T.n_Part_own_start, by show 1 < 1000; decide, fun H2 k2 e2 => ?_⟩
  tm_at "sx"
  refine ⟨o, _, dx, _, rfl, e2, T.c_Part, T.n_Part_known, by show 2 < 1000; decide, fun H3 k3 e3 => ?_⟩
  tm_at "sx"
  have f3 : ∀ a u, a ≠ o → H a = some u → H3 a = some u := fun a u z e => k3.2 a u z (k2.2 a u z (k1.2 a u z e))
  refine ⟨kn, kvs, rfl, f3 _ _ n1 hk, ?_⟩
  tm_at "sx"
  refine ⟨o, _, dx, _, rfl, e3, T.c_Part, T.n_Part_own_places, by show 3 < 1000; decide, fun H4 k4 e4 => ?_⟩
  tm_at "sx"
  have f4 : ∀ a u, a ≠ o → H a = some u → H4 a = some u := fun a u z e => k4.2 a u z (f3 a u z e)
  refine ⟨sh, us, ps, B, rfl, sl_of (f4 _ _ n2 hs), Paired.mapP hps fun _ _ ⟨b, e, hb⟩ => ⟨b, e, f4 _ _ (fun z => by subst z; rw [ho] at hb; cases hb) hb⟩, hB, hb, fun t H5 s5 hbv => ?_⟩
  tm_at "sx"
  refine ⟨o, _, dx, _, rfl, s5 _ _ e4, T.c_Part, T.n_Part_own_basis, by show 4 < 1000; decide, fun H6 k6 e6 => ?_⟩
  tm_at "sx"
  refine ⟨o, _, dx, _, rfl, e6, T.c_Part, T.n_Part_own_border, by show 5 < 1000; decide, fun H7 k7 e7 => ?_⟩
  have f7 : ∀ a u, a ≠ o → H5 a = some u → H7 a = some u := fun a u z e => k7.2 a u z (k6.2 a u z e)
  have eO := s5 _ _ e4
  obtain ⟨bas, ⟨vs, b1, b2⟩, b3⟩ := hbv.split
  refine q bas H7 (fun a u z e => f7 a u z (s5 _ _ (f4 a u z e))) ⟨dx, t, e7, vs, f7 _ _ (fun z => by subst z; rw [b1] at eO; cases eO) b1, Paired.mapP b2 fun _ _ ⟨b, e, hb⟩ => ⟨b, e, f7 _ _ (fun z => by subst z; rw [hb] at eO; cases eO) hb⟩⟩ b3
end
end Cp
set_option Elab.async false
set_option linter.all false
set_option maxRecDepth 100000
set_option maxHeartbeats 2000000
/-! F16: a part's answers. -/
namespace Cp
open PySem PySem.Spec PyProof.Rows L2
local macro_rules | `(tactic| tm_at "fact") => `(tactic| first
  | assumption
  | (apply Same.up; · assumption
     tm_at "fact")
  | (apply Same.upS; · assumption
     tm_at "fact")
  | (apply Same.upL; · assumption
     tm_at "fact")
  | (apply sq_of; tm_at "fact")
  | (apply sl_of; tm_at "fact")
  | (apply Chg.up; · assumption
     · tm_at "fact"
     · exact fun z => nomatch z)
  | (apply Chg.upS; · assumption
     · tm_at "fact"
     · exact fun _ z => nomatch z
     · exact fun _ _ z => nomatch z))
local macro_rules | `(tactic| tm_at "same") => `(tactic| first
  | assumption
  | exact Same.refl _
  | (refine Same.trans ?_ ?_; rotate_left; · assumption
     tm_at "same"))
local macro_rules | `(tactic| tm_at "sx1") => `(tactic| with_reducible first
  | refine w_var rfl ?_
  | refine w_c ?_
  | refine w_op ?_
  | refine w_seq ?_
  | refine w_asg ?_
  | refine w_gname ?_
  | refine w_ret ?_
  | refine w_nil ?_
  | refine w_cons ?_
  | refine w_tup ?_
  | refine w_lst ?_
  | refine w_cb ?_
  | refine w_callR ?_
  | refine w_i0 ?_
  | refine w_gcons ?_
  | refine w_gnil ?_
  | refine w_test ?_
  | refine w_not ?_
  | refine w_ifs ?_
  | refine w_if ?_
  | refine w_expr ?_
  | refine w_eqI ?_
  | refine w_neI ?_
  | refine w_eqS ?_
  | refine w_neS ?_
  | refine w_or ?_
  | refine w_and ?_
  | refine w_par3 ?_
  | refine w_andV ?_
  | refine w_notV ?_
  | refine w_lcS ?_
  | refine w_forE ?_
  | refine w_m1 ?_
  | refine w_forL ?_
  | refine w_forR1 ?_
  | refine w_isN ?_
  | refine w_notN ?_
  | refine w_fld ?_
  | refine w_methR ?_
  | refine w_propR ?_
  | refine w_propA ?_
  | refine w_methA ?_
  | refine w_subA ?_
  | refine w_makeS ?_
  | refine w_fldS ?_
  | refine w_chain ?_
  | refine w_orV ?_
  | refine w_next ?_
  | refine w_tB ?_
  | refine w_lcL ?_
  | refine w_lcT ?_
  | refine w_lcR1 ?_
  | refine w_lcR2 ?_
  | refine w_turn ?_
  | refine w_yes ?_
  | refine w_par ?_
  | refine w_uI ?_
  | refine w_un ?_
  | refine w_one ?_)
local macro_rules | `(tactic| tm_at "at") => `(tactic| first | exact rfl | exact atI_nat rfl)
local macro_rules | `(tactic| tm_at "ix") => `(tactic| first
  | (with_reducible apply w_ixT; · tm_at "fact"
     · tm_at "at")
  | (with_reducible apply w_ixL; · tm_at "fact"
     · tm_at "at")
  | (with_reducible apply w_gtup; · tm_at "fact"
     · exact rfl))
local macro_rules | `(tactic| tm_at "sx") => `(tactic| repeat (first | tm_at "sx1" | tm_at "ix"))
section
variable {P : Program} {w : World} {K : PySem.W.Frag} {mg : Str → Option Value} {base : Heap}
def sp_Part_colour (K : PySem.W.Frag) : Sp := fun vs H Q _ => ∃ (o : Addr) (c : Nat) (st kn : Addr) (num : Int) (bas : List (Int × Int)) (bd : Int), vs = [.ref o] ∧ PartV K H o c st kn num bas bd ∧ Q (.str (one1 c)) H
theorem ok_Part_colour (T : Tx K mg) : FnR P w K mg base CX0 1 (He5.wf K (He.ga K "Part") "property" "colour") (sp_Part_colour K) := by
  refine fnr_of T.f_Part_colour sc_Part_colour (fun _ _ _ _ _ _ us hl => match us, hl with | [_], _ => rfl) (fun vs H Q E h => by obtain ⟨_, _, _, _, _, _, _, rfl, _⟩ := h; rfl) (fun cdv A outer s H vs Q E hr h => ?_)
  have nd := sc_Part_colour.nd
  refine ⟨_, (pss_one (ps_ret (pe_fld (pv 0) rfl))), ?_⟩
  try dsimp only [cxOf]
  obtain ⟨o, c, st, kn, num, bas, bd, rfl, ⟨dx, bs, ho, hb⟩, q⟩ := h
  tm_at "sx"
  exact ⟨o, _, dx, _, _, rfl, ho, T.c_Part, T.n_Part_own_colour, rfl, q⟩
def sp_Part_start (K : PySem.W.Frag) : Sp := fun vs H Q _ => ∃ (o : Addr) (c : Nat) (st kn : Addr) (num : Int) (bas : List (Int × Int)) (bd : Int), vs = [.ref o] ∧ PartV K H o c st kn num bas bd ∧ Q (.ref st) H
theorem ok_Part_start (T : Tx K mg) : FnR P w K mg base CX0 1 (He5.wf K (He.ga K "Part") "property" "start") (sp_Part_start K) := by
  refine fnr_of T.f_Part_start sc_Part_start (fun _ _ _ _ _ _ us hl => match us, hl with | [_], _ => rfl) (fun vs H Q E h => by obtain ⟨_, _, _, _, _, _, _, rfl, _⟩ := h; rfl) (fun cdv A outer s H vs Q E hr h => ?_)
  have nd := sc_Part_start.nd
  refine ⟨_, (pss_one (ps_ret (pe_fld (pv 0) rfl))), ?_⟩
  try dsimp only [cxOf]
  obtain ⟨o, c, st, kn, num, bas, bd, rfl, ⟨dx, bs, ho, hb⟩, q⟩ := h
  tm_at "sx"
  exact ⟨o, _, dx, _, _, rfl, ho, T.c_Part, T.n_Part_own_start, rfl, q⟩
def sp_Part_places (K : PySem.W.Frag) : Sp := fun vs H Q _ => ∃ (o : Addr) (c : Nat) (st kn : Addr) (num : Int) (bas : List (Int × Int)) (bd : Int), vs = [.ref o] ∧ PartV K H o c st kn num bas bd ∧ Q (.int num) H
theorem ok_Part_places (T : Tx K mg) : FnR P w K mg base CX0 1 (He5.wf K (He.ga K "Part") "property" "places") (sp_Part_places K) := by
  refine fnr_of T.f_Part_places sc_Part_places (fun _ _ _ _ _ _ us hl => match us, hl with | [_], _ => rfl) (fun vs H Q E h => by obtain ⟨_, _, _, _, _, _, _, rfl, _⟩ := h; rfl) (fun cdv A outer s H vs Q E hr h => ?_)
  have nd := sc_Part_places.nd
  refine ⟨_, (pss_one (ps_ret (pe_fld (pv 0) rfl))), ?_⟩
  try dsimp only [cxOf]
  obtain ⟨o, c, st, kn, num, bas, bd, rfl, ⟨dx, bs, ho, hb⟩, q⟩ := h
  tm_at "sx"
  exact ⟨o, _, dx, _, _, rfl, ho, T.c_Part, T.n_Part_own_places, rfl, q⟩
def sp_Part_border (K : PySem.W.Frag) : Sp := fun vs H Q _ => ∃ (o : Addr) (c : Nat) (st kn : Addr) (num : Int) (bas : List (Int × Int)) (bd : Int), vs = [.ref o] ∧ PartV K H o c st kn num bas bd ∧ Q (.int bd) H
theorem ok_Part_border (T : Tx K mg) : FnR P w K mg base CX0 1 (He5.wf K (He.ga K "Part") "property" "border") (sp_Part_border K) := by
  refine fnr_of T.f_Part_border sc_Part_border (fun _ _ _ _ _ _ us hl => match us, hl with | [_], _ => rfl) (fun vs H Q E h => by obtain ⟨_, _, _, _, _, _, _, rfl, _⟩ := h; rfl) (fun cdv A outer s H vs Q E hr h => ?_)
  have nd := sc_Part_border.nd
  refine ⟨_, (pss_one (ps_ret (pe_fld (pv 0) rfl))), ?_⟩
  try dsimp only [cxOf]
  obtain ⟨o, c, st, kn, num, bas, bd, rfl, ⟨dx, bs, ho, hb⟩, q⟩ := h
  tm_at "sx"
  exact ⟨o, _, dx, _, _, rfl, ho, T.c_Part, T.n_Part_own_border, rfl, q⟩
def sp_Part_size (K : PySem.W.Frag) : Sp := fun vs H Q _ => ∃ (o : Addr) (c : Nat) (st kn : Addr) (num : Int) (bas : List (Int × Int)) (bd : Int), vs = [.ref o] ∧ PartV K H o c st kn num bas bd ∧ ∀ H', Same H H' → Q (if bas = [] then .int num else .non) H'
theorem ok_Part_size (T : Tx K mg) : FnR P w K mg base CX0 1 (He5.wf K (He.ga K "Part") "property" "size") (sp_Part_size K) := by
  refine fnr_of T.f_Part_size sc_Part_size (fun _ _ _ _ _ _ us hl => match us, hl with | [_], _ => rfl) (fun vs H Q E h => by obtain ⟨_, _, _, _, _, _, _, rfl, _⟩ := h; rfl) (fun cdv A outer s H vs Q E hr h => ?_)
  have nd := sc_Part_size.nd
  refine ⟨_, (pss_one (ps_ret (pe_ifExp (pt_cmpR (op_eqD (hu64 hr)) (pe_fld (pv 0) rfl) (pe_tupS pa_nil) (nomark _)) (pe_fld (pv 0) rfl) pe_non))), ?_⟩
  try dsimp only [cxOf]
  obtain ⟨o, c, st, kn, num, bas, bd, rfl, ⟨dx, bs, ho, hb⟩, q⟩ := h
  tm_at "sx"
  refine ⟨o, _, dx, _, _, rfl, ho, T.c_Part, T.n_Part_own_basis, rfl, ?_⟩
  tm_at "sx"
  refine ⟨Nat.zero_le _, fun b H1 _ s1 e1 => ?_⟩
  refine w_eqB0 (hb.up s1) e1 ?_
  refine ⟨_, rfl, ?_⟩
  by_cases h0 : bas = []
  · rw [decide_eq_true h0]
    refine w_tt ?_
    tm_at "sx"
    have := q H1 s1
    rw [if_pos h0] at this
    exact ⟨o, _, dx, _, _, rfl, s1 _ _ ho, T.c_Part, T.n_Part_own_places, rfl, this⟩
  · rw [decide_eq_false h0]
    refine w_ff ?_
    tm_at "sx"
    have := q H1 s1
    rw [if_neg h0] at this
    exact this
def sp_Part_net (K : PySem.W.Frag) : Sp := fun vs H Q _ => ∃ (o : Addr) (c : Nat) (st kn : Addr) (num : Int) (bas : List (Int × Int)) (bd : Int), vs = [.ref o] ∧ PartV K H o c st kn num bas bd ∧ 
  ((∃ v, bas = [v]) ∧ Q .non H ∨ ∃ n : T3, bas = [(n.1, 0), (n.2.1, n.2.2)] ∧ NV n ∧ ∀ b H', Same H H' → NetV K H' b n → Q (.ref b) H')
theorem ok_Part_net (T : Tx K mg) : FnR P w K mg base CX0 5 (He5.wf K (He.ga K "Part") "property" "net") (sp_Part_net K) := by
  refine fnr_of T.f_Part_net sc_Part_net (fun _ _ _ _ _ _ us hl => match us, hl with | [_], _ => rfl) (fun vs H Q E h => by obtain ⟨_, _, _, _, _, _, _, rfl, _⟩ := h; rfl) (fun cdv A outer s H vs Q E hr h => ?_)
  have nd := sc_Part_net.nd
  refine ⟨_, (pss_cons (ps_if (pt_cmpR op_lt (pe_callB call_len rfl T.b_len bo_len (pa_cons (pe_fld (pv 0) rfl) pa_nil)) pe_int (nomark _)) (pss_one (ps_ret pe_non)) pss_nil)
    (pss_cons (ps_asg (pe_fld (pv 0) rfl) (pg_tup rfl (pgs_cons (pg_name (i := 1) nd rfl (Or.inl rfl)) (pgs_cons (pg_name (i := 2) nd rfl (Or.inl rfl)) pgs_nil))))
    (pss_one (ps_ret (pe_makeS T.mk_Net (ok_Net___init__ T) (hr.mono (by decide)) rfl T.g_Net (pa_cons (pe_ix ix_tup (pv 1) pe_int (fun _ _ => rfl)) (pa_cons (pe_ix ix_tup (pv 2) pe_int (fun _ _ => rfl)) (pa_cons (pe_ix ix_tup (pv 2) pe_int (fun _ _ => rfl)) pa_nil)))))))), ?_⟩
  try dsimp only [cxOf]
  obtain ⟨o, c, st, kn, num, bas, bd, rfl, ⟨dx, bs, ho, us, hb, hus⟩, q⟩ := h
  have hl : us.length = bas.length := hus.len
  tm_at "sx"
  refine ⟨o, _, dx, _, _, rfl, ho, T.c_Part, T.n_Part_own_basis, rfl, ?_⟩
  tm_at "sx"
  refine ⟨.ref bs, us.length, rfl, .inr ⟨us, sq_of hb, rfl⟩, ?_⟩
  tm_at "sx"
  rcases q with ⟨⟨v, rfl⟩, q⟩ | ⟨n, rfl, nv, q⟩
  · refine ⟨_, rfl, ?_⟩
    rw [decide_eq_true (by rw [hl]; show ((1 : Nat) : Int) < 2; decide)]
    refine w_tt ?_
    tm_at "sx"
    exact q
  · refine ⟨_, rfl, ?_⟩
    rw [decide_eq_false (by rw [hl]; show ¬ ((2 : Nat) : Int) < 2; decide)]
    refine w_ff ?_
    tm_at "sx"
    refine ⟨o, _, dx, _, _, rfl, ho, T.c_Part, T.n_Part_own_basis, rfl, ?_⟩
    cases hus with
    | cons r1 hus => cases hus with
      | cons r2 hus => cases hus with
        | nil =>
          obtain ⟨b1, rfl, h1⟩ := r1
          obtain ⟨b2, rfl, h2⟩ := r2
          tm_at "sx"
          intro x dx' H2 nx ndx hne s2 e2
          exact ⟨x, dx', n, rfl, e2, nv, fun H3 k3 n3 => ⟨rfl, q x H3 (made_same (H := H) nx s2 k3) n3⟩⟩
/-- a shift that is among the shifts is carried -/
def sp_Part_carries (K : PySem.W.Frag) : Sp := fun vs H Q _ => ∃ (o a : Addr) (c : Nat) (st kn : Addr) (num : Int) (bas : List (Int × Int)) (bd : Int) (ps : List (Int × Int)) (B : Nat) (p : Int × Int), vs = [.ref o, .ref a] ∧ PartV K H o c st kn num bas bd ∧ H a = some (tup2 p) ∧ BasP B ps bas ∧ B < 1000000 ∧ (p = (0, 0) ∨ p ∈ ps) ∧ (p.1.natAbs ≤ B ∧ p.2.natAbs ≤ B) ∧
  ∀ H', Same H H' → Q (.bl true) H'
theorem ok_Part_carries (T : Tx K mg) : FnR P w K mg base CX0 7 (He.ma K (He.ga K "Part") "carries") (sp_Part_carries K) := by
  refine fnr_of T.f_Part_carries sc_Part_carries (fun _ _ _ _ _ _ us hl => match us, hl with | [_, _], _ => rfl) (fun vs H Q E h => by obtain ⟨_, _, _, _, _, _, _, _, _, _, _, rfl, _⟩ := h; rfl) (fun cdv A outer s H vs Q E hr h => ?_)
  have nd := sc_Part_carries.nd
  refine ⟨_, (pss_cons (ps_if (pt_cmpR (op_eqD (hu64 hr)) (pe_fld (pv 0) rfl) (pe_tupS pa_nil) (nomark _)) (pss_one (ps_ret (pe_cmpR (op_eqD (hu64 hr)) (pv 1) (pe_tupS (pa_cons pe_int (pa_cons pe_int pa_nil))) (nomark _)))) pss_nil)
    (pss_cons (ps_set (i := 2) nd rfl (Or.inl rfl) (pe_propR (pv 0) T.c_Part T.p_Part_net (ok_Part_net T) (hr.mono (by decide))))
    (pss_cons (ps_if (pt_cmp (pc_notN (pv 2))) (pss_one (ps_ret (pe_cmpR (op_inO T.x_Net__contains__ (ok_Net___contains__ T) (hr.mono (by decide))) (pv 1) (pv 2) (by with_unfolding_all rfl)))) pss_nil)
    (pss_cons (ps_asg (pe_ix ix_tup (pe_fld (pv 0) rfl) pe_int (fun _ _ => rfl)) (pg_tup rfl (pgs_cons (pg_name (i := 3) nd rfl (Or.inl rfl)) (pgs_cons (pg_name (i := 4) nd rfl (Or.inl rfl)) pgs_nil))))
    (pss_cons (ps_set (i := 5) nd rfl (Or.inl rfl) (pe_ifExp (pt_cmpR op_ne (pv 4) pe_int (nomark _)) (pe_op op_fdivN (pe_ix ix_tup (pv 1) pe_int (fun _ _ => rfl)) (pv 4)) (pe_op op_fdivN (pe_ix ix_tup (pv 1) pe_int (fun _ _ => rfl)) (pv 3))))
    (pss_one (ps_ret (pe_cmpR (op_eqD (hu64 hr)) (pv 1) (pe_tupS (pa_cons (pe_op op_mul (pv 5) (pv 3)) (pa_cons (pe_op op_mul (pv 5) (pv 4)) pa_nil))) (nomark _))))))))), ?_⟩
  try dsimp only [cxOf]
  obtain ⟨o, a, c, st, kn, num, bas, bd, ps, B, p, rfl, hp, ha, hB, hB1, hin, ⟨hb1, hb2⟩, q⟩ := h
  obtain ⟨dx, bs, ho, hb⟩ := id hp
  tm_at "sx"
  refine ⟨o, _, dx, _, _, rfl, ho, T.c_Part, T.n_Part_own_basis, rfl, ?_⟩
  tm_at "sx"
  refine ⟨Nat.zero_le _, fun b H1 _ s1 e1 => ?_⟩
  refine w_eqB0 (hb.up s1) e1 ?_
  refine ⟨_, rfl, ?_⟩
  rcases hB with ⟨rfl, hz⟩ | ⟨v, rfl, v0, v1, v2, _, hv⟩ | ⟨n, rfl, n1, n2, n3, n4, n5, _, hn⟩
  · rw [decide_eq_true rfl]
    refine w_tt ?_
    tm_at "sx"
    refine ⟨by show 2 ≤ sizeLine; decide, fun t H2 nt s2 e2 => ?_⟩
    have p0 : p = (0, 0) := hin.elim id (hz p)
    refine w_eqPl (x := p.1) (y := p.2) (by tm_at "fact") (by tm_at "fact") ?_
    rw [show ((p.1, p.2) : Int × Int) = p from rfl, p0, decide_eq_true rfl]
    exact q _ (Same.trans s1 s2)
  · rw [decide_eq_false (by simp)]
    refine w_ff ?_
    tm_at "sx"
    refine ⟨o, dx, _, rfl, s1 _ _ ho, o, c, st, kn, num, [v], bd, rfl, hp.up s1, .inl ⟨⟨v, rfl⟩, ?_⟩⟩
    tm_at "sx"
    refine ⟨false, rfl, w_ff ?_⟩
    tm_at "sx"
    obtain ⟨us, hbt, hus⟩ := id hb
    cases hus with
    | cons r1 hus => cases hus with
      | nil =>
        obtain ⟨b1, rfl, h1⟩ := r1
        refine ⟨o, _, dx, _, _, rfl, s1 _ _ ho, T.c_Part, T.n_Part_own_basis, rfl, ?_⟩
        obtain ⟨k, hk⟩ : ∃ k : Int, p = (k * v.1, k * v.2) := by
          rcases hin with z | z
          · exact ⟨0, by rw [z]; simp⟩
          · exact hv p z
        have k1 : p.1 = k * v.1 := congrArg Prod.fst hk
        have k2 : p.2 = k * v.2 := congrArg Prod.snd hk
        have hb1' := s1 _ _ hbt
        have h1' := s1 _ _ h1
        have ha' := s1 _ _ ha
        tm_at "sx"
        refine ⟨_, rfl, ?_⟩
        by_cases h0 : v.2 = 0
        all_goals first
          | (rw [decide_eq_true h0]
             refine w_ff ?_
             tm_at "sx"
             have hv1 : v.1 ≠ 0 := fun z => v0 (Prod.ext z h0)
             refine w_iC ⟨hv1, by omega⟩ ?_
             rw [k1, Int.mul_fdiv_cancel k hv1])
          | (rw [decide_eq_false h0]
             refine w_tt ?_
             tm_at "sx"
             refine w_iC ⟨h0, by omega⟩ ?_
             rw [k2, Int.mul_fdiv_cancel k h0])
        all_goals
          (tm_at "sx"
           refine w_iC (.inr ⟨by omega, by omega⟩) ?_
           tm_at "sx"
           refine w_iC (.inr ⟨by omega, by omega⟩) ?_
           tm_at "sx"
           refine ⟨by show 2 ≤ sizeLine; decide, fun t H2 nt s2 e2 => ?_⟩
           refine w_eqPl (x := p.1) (y := p.2) (by tm_at "fact") (by tm_at "fact") ?_
           rw [show ((p.1, p.2) : Int × Int) = p from rfl, hk, decide_eq_true rfl]
           exact q _ (Same.trans s1 s2))
  · rw [decide_eq_false (by simp)]
    refine w_ff ?_
    tm_at "sx"
    refine ⟨o, dx, _, rfl, s1 _ _ ho, o, c, st, kn, num, _, bd, rfl, hp.up s1, .inr ⟨n, rfl, ⟨n1, n2, n3, n4⟩, fun b2 H2 s2 hn2 => ?_⟩⟩
    tm_at "sx"
    refine ⟨true, rfl, w_tt ?_⟩
    tm_at "sx"
    obtain ⟨dn, tn, hn1, hn3⟩ := id hn2
    have hl : Lat n.1 n.2.1 n.2.2 p := by
      rcases hin with z | z
      · exact ⟨0, 0, by rw [z]; simp⟩
      · exact hn p z
    refine ⟨b2, dn, _, rfl, hn1, b2, a, n, p, rfl, hn2, ⟨⟨n1, n2, n3, n4⟩, by omega, .inr ⟨by omega, by omega⟩⟩, s2 _ _ (s1 _ _ ha), fun H3 s3 => ?_⟩
    rw [decide_eq_true (lat_low ⟨n1, n2, n3, n4⟩ hl)]
    exact ⟨true, rfl, q _ (Same.trans s1 (Same.trans s2 s3))⟩
end
end Cp
set_option Elab.async false
set_option linter.all false
set_option maxRecDepth 100000
set_option maxHeartbeats 2000000
/-! F17: part_from. -/
namespace Cp
open PySem PySem.Spec PyProof.Rows L2
local macro_rules | `(tactic| tm_at "fact") => `(tactic| first
  | assumption
  | (apply Same.up; · assumption
     tm_at "fact")
  | (apply Same.upS; · assumption
     tm_at "fact")
  | (apply Same.upL; · assumption
     tm_at "fact")
  | (apply sq_of; tm_at "fact")
  | (apply sl_of; tm_at "fact")
  | (apply Chg.up; · assumption
     · tm_at "fact"
     · exact fun z => nomatch z)
  | (apply Chg.upS; · assumption
     · tm_at "fact"
     · exact fun _ z => nomatch z
     · exact fun _ _ z => nomatch z))
local macro_rules | `(tactic| tm_at "same") => `(tactic| first
  | assumption
  | exact Same.refl _
  | (refine Same.trans ?_ ?_; rotate_left; · assumption
     tm_at "same"))
local macro_rules | `(tactic| tm_at "sx1") => `(tactic| with_reducible first
  | refine w_var rfl ?_
  | refine w_c ?_
  | refine w_op ?_
  | refine w_seq ?_
  | refine w_asg ?_
  | refine w_gname ?_
  | refine w_ret ?_
  | refine w_nil ?_
  | refine w_cons ?_
  | refine w_tup ?_
  | refine w_lst ?_
  | refine w_cb ?_
  | refine w_callR ?_
  | refine w_i0 ?_
  | refine w_gcons ?_
  | refine w_gnil ?_
  | refine w_test ?_
  | refine w_not ?_
  | refine w_ifs ?_
  | refine w_if ?_
  | refine w_expr ?_
  | refine w_eqI ?_
  | refine w_neI ?_
  | refine w_eqS ?_
  | refine w_neS ?_
  | refine w_or ?_
  | refine w_and ?_
  | refine w_par3 ?_
  | refine w_andV ?_
  | refine w_notV ?_
  | refine w_lcS ?_
  | refine w_forE ?_
  | refine w_m1 ?_
  | refine w_forL ?_
  | refine w_forR1 ?_
  | refine w_isN ?_
  | refine w_notN ?_
  | refine w_fld ?_
  | refine w_methR ?_
  | refine w_propR ?_
  | refine w_propA ?_
  | refine w_methA ?_
  | refine w_subA ?_
  | refine w_makeS ?_
  | refine w_fldS ?_
  | refine w_chain ?_
  | refine w_orV ?_
  | refine w_next ?_
  | refine w_tB ?_
  | refine w_lcL ?_
  | refine w_lcT ?_
  | refine w_lcR1 ?_
  | refine w_lcR2 ?_
  | refine w_turn ?_
  | refine w_yes ?_
  | refine w_par ?_
  | refine w_uI ?_
  | refine w_un ?_
  | refine w_one ?_)
local macro_rules | `(tactic| tm_at "at") => `(tactic| first | exact rfl | exact atI_nat rfl)
local macro_rules | `(tactic| tm_at "ix") => `(tactic| first
  | (with_reducible apply w_ixT; · tm_at "fact"
     · tm_at "at")
  | (with_reducible apply w_ixL; · tm_at "fact"
     · tm_at "at")
  | (with_reducible apply w_gtup; · tm_at "fact"
     · exact rfl))
local macro_rules | `(tactic| tm_at "sx") => `(tactic| repeat (first | tm_at "sx1" | tm_at "ix"))
def kP (p : Pt) : List Key := [.inl p.1, .inl p.2]
theorem kP_map (p : Pt) : HO.tup ((kP p).map kV) = tup2 p := rfl
theorem kP_inj {p q : Pt} : kP p = kP q ↔ p = q := by
  constructor
  · intro h
    unfold kP at h
    injection h with h1 h2
    injection h2 with h2 _
    injection h1 with h1
    injection h2 with h2
    exact Prod.ext h1 h2
  · rintro rfl; rfl
/-- a dict from places to places -/
def KV (H : Hp) : List (List Key × V) → List (Pt × Pt) → Prop := Paired fun kv e => kv.1 = kP e.1 ∧ ∃ b, kv.2 = .ref b ∧ H b = some (tup2 e.2)
theorem KV.len {H : Hp} {kvs : List (List Key × V)} {M : List (Pt × Pt)} (h : KV H kvs M) : kvs.length = M.length := Paired.length h
theorem KV.same {H H' : Hp} {kvs : List (List Key × V)} {M : List (Pt × Pt)} (s : Same H H') (h : KV H kvs M) : KV H' kvs M := Paired.mapP h fun _ _ ⟨e, b, eb, hb⟩ => ⟨e, b, eb, s _ _ hb⟩
theorem KV.chg {H H' : Hp} {p : Addr} {o : HO} {kvs : List (List Key × V)} {M : List (Pt × Pt)} (c : Chg p o H H') (d : ∀ xs, HO.tup xs ≠ o) (h : KV H kvs M) : KV H' kvs M := Paired.mapP h fun _ _ ⟨e, b, eb, hb⟩ => ⟨e, b, eb, c.up hb (d _)⟩
theorem KV.app {H : Hp} {kvs : List (List Key × V)} {M : List (Pt × Pt)} {k q : Pt} {b : Addr} (h : KV H kvs M) (hb : H b = some (tup2 q)) : KV H (kvs ++ [(kP k, .ref b)]) (M ++ [(k, q)]) := by
  induction h with
  | nil => exact .cons ⟨rfl, b, rfl, hb⟩ .nil
  | cons r _ ih => exact .cons r ih
theorem KV.find {H : Hp} {kvs : List (List Key × V)} {M : List (Pt × Pt)} (h : KV H kvs M) (k : Pt) : match fnd M k with
    | none => valV kvs (kP k) = none
    | some r => ∃ b, valV kvs (kP k) = some (.ref b) ∧ H b = some (tup2 r) := by
  induction h with
  | nil => rfl
  | @cons kv e l1 l2 r _ ih =>
    obtain ⟨e1, b, eb, hb⟩ := r
    unfold fnd valV at *
    by_cases z : e.1 = k
    · rw [List.find?_cons_of_pos (by simpa using z), List.find?_cons_of_pos (by rw [e1, z]; simp)]
      exact ⟨b, congrArg Option.some eb, hb⟩
    · rw [List.find?_cons_of_neg (by simpa using z), List.find?_cons_of_neg (by rw [e1]; simpa [kP_inj] using z)]
      exact ih
theorem KV.none {H : Hp} {kvs : List (List Key × V)} {M : List (Pt × Pt)} (h : KV H kvs M) {k : Pt} (e : fnd M k = none) : valV kvs (kP k) = .none := by have := h.find k; rw [e] at this; exact this
theorem KV.some {H : Hp} {kvs : List (List Key × V)} {M : List (Pt × Pt)} (h : KV H kvs M) {k r : Pt} (e : fnd M k = some r) : ∃ b, valV kvs (kP k) = .some (.ref b) ∧ H b = .some (tup2 r) := by have := h.find k; rw [e] at this; exact this
theorem putK_none {kvs : List (List Key × V)} {k : List Key} {v : V} (e : valV kvs k = none) : putK kvs k v = kvs ++ [(k, v)] := by
  unfold putK
  rw [if_neg]
  intro z
  obtain ⟨kv, h1, h2⟩ := List.any_eq_true.mp z
  unfold valV at e
  rw [Option.map_eq_none_iff, List.find?_eq_none] at e
  exact e kv h1 h2
theorem Ps.snoc {H : Hp} {b : Addr} {q : Pt} {vs : List V} {ps : List Pt} (h : Ps H vs ps) (hb : H b = some (tup2 q)) : Ps H (vs ++ [.ref b]) (ps ++ [q]) := h.app (Ps.one hb)
theorem Ps.last {H : Hp} {vs : List V} {ps : List Pt} {q : Pt} (h : Ps H vs (ps ++ [q])) : ∃ us b, vs = us ++ [.ref b] ∧ Ps H us ps ∧ H b = some (tup2 q) := by
  induction ps generalizing vs with
  | nil =>
    cases h with
    | cons r t => cases t with
      | nil => obtain ⟨b, rfl, hb⟩ := r; exact ⟨[], b, rfl, .nil, hb⟩
  | cons p ps ih =>
    cases h with
    | cons r t =>
      obtain ⟨us, b, rfl, h1, h2⟩ := ih t
      exact ⟨_ :: us, b, rfl, .cons r h1, h2⟩
theorem chg_same {H0 H H' : Hp} {p : Addr} {o : HO} (n : H0 p = none) (s : Same H0 H) (c : Chg p o H H') : Same H0 H' := fun a u e => c.2 a u (fun z => by subst z; rw [n] at e; cases e) (s a u e)
/-- the search's state in the heap -/
structure SR (H : Hp) (kn wl sl : Addr) (st : DS) : Prop where
  k : ∃ kvs, H kn = some (.dT kvs) ∧ KV H kvs st.M
  w : ∃ us, H wl = some (.lst us) ∧ Ps H us st.W
  s : ∃ us, H sl = some (.lst us) ∧ Ps H us st.S
  ne : wl ≠ sl
theorem SR.same {H H' : Hp} {kn wl sl : Addr} {st : DS} (s : Same H H') (h : SR H kn wl sl st) : SR H' kn wl sl st := by
  obtain ⟨⟨k, h1, h2⟩, ⟨u, h3, h4⟩, ⟨v, h5, h6⟩, ne⟩ := h
  exact ⟨⟨k, s _ _ h1, h2.same s⟩, ⟨u, s _ _ h3, h4.same s⟩, ⟨v, s _ _ h5, h6.same s⟩, ne⟩
theorem SR.pop {H : Hp} {kn wl sl : Addr} {M : List (Pt × Pt)} {W S : List Pt} {b : Nat} {p : Pt} (h : SR H kn wl sl ⟨M, W ++ [p], S, b⟩) : ∃ us c, H wl = some (.lst (us ++ [.ref c])) ∧ H c = some (tup2 p) ∧
    ∀ H', Chg wl (.lst (us ++ [.ref c])) H H' → H' wl = some (.lst us) → SR H' kn wl sl ⟨M, W, S, b⟩ := by
  obtain ⟨⟨k, h1, h2⟩, ⟨u, h3, h4⟩, ⟨v, h5, h6⟩, ne⟩ := h
  obtain ⟨us, c, rfl, g1, g2⟩ := h4.last
  refine ⟨us, c, h3, g2, fun H' k e => ⟨⟨_, k.2 _ _ (fun z => by subst z; rw [h1] at h3; cases h3) h1, h2.chg k (fun _ z => nomatch z)⟩, ⟨us, e, g1.chg k (fun _ z => nomatch z)⟩, ⟨v, k.2 _ _ (fun z => ne z.symm) h5, h6.chg k (fun _ z => nomatch z)⟩, ne⟩⟩
theorem SR.put {H : Hp} {kn wl sl : Addr} {M : List (Pt × Pt)} {W S : List Pt} {b : Nat} {k q : Pt} {c : Addr} (h : SR H kn wl sl ⟨M, W, S, b⟩) (hk : fnd M k = none) (hc : H c = some (tup2 q)) : ∃ kvs, H kn = some (.dT kvs) ∧ kvs.length = M.length ∧
    ∀ H', Chg kn (.dT kvs) H H' → H' kn = some (.dT (putK kvs (kP k) (.ref c))) → SR H' kn wl sl ⟨M ++ [(k, q)], W, S, b⟩ := by
  obtain ⟨⟨kvs, h1, h2⟩, ⟨u, h3, h4⟩, ⟨v, h5, h6⟩, ne⟩ := h
  refine ⟨kvs, h1, h2.len, fun H' k e => ⟨⟨_, e, ?_⟩, ⟨u, k.2 _ _ (fun z => by subst z; rw [h1] at h3; cases h3) h3, h4.chg k (fun _ z => nomatch z)⟩, ⟨v, k.2 _ _ (fun z => by subst z; rw [h1] at h5; cases h5) h5, h6.chg k (fun _ z => nomatch z)⟩, ne⟩⟩
  rw [putK_none (h2.none hk)]
  exact (h2.chg k (fun _ z => nomatch z)).app (k.up hc (fun z => nomatch z))
theorem SR.push {H : Hp} {kn wl sl : Addr} {M : List (Pt × Pt)} {W S : List Pt} {b : Nat} {q : Pt} {c : Addr} (h : SR H kn wl sl ⟨M, W, S, b⟩) (hc : H c = some (tup2 q)) : ∃ us, H wl = some (.lst us) ∧ us.length = W.length ∧
    ∀ H', Chg wl (.lst us) H H' → H' wl = some (.lst (us ++ [.ref c])) → SR H' kn wl sl ⟨M, W ++ [q], S, b⟩ := by
  obtain ⟨⟨kvs, h1, h2⟩, ⟨u, h3, h4⟩, ⟨v, h5, h6⟩, ne⟩ := h
  refine ⟨u, h3, h4.len, fun H' k e => ⟨⟨_, k.2 _ _ (fun z => by subst z; rw [h1] at h3; cases h3) h1, h2.chg k (fun _ z => nomatch z)⟩, ⟨_, e, (h4.chg k (fun _ z => nomatch z)).snoc (k.up hc (fun z => nomatch z))⟩, ⟨v, k.2 _ _ (fun z => ne z.symm) h5, h6.chg k (fun _ z => nomatch z)⟩, ne⟩⟩
theorem SR.shift {H : Hp} {kn wl sl : Addr} {M : List (Pt × Pt)} {W S : List Pt} {b : Nat} {q : Pt} {c : Addr} (h : SR H kn wl sl ⟨M, W, S, b⟩) (hc : H c = some (tup2 q)) : ∃ us, H sl = some (.lst us) ∧ us.length = S.length ∧
    ∀ H', Chg sl (.lst us) H H' → H' sl = some (.lst (us ++ [.ref c])) → SR H' kn wl sl ⟨M, W, S ++ [q], b⟩ := by
  obtain ⟨⟨kvs, h1, h2⟩, ⟨u, h3, h4⟩, ⟨v, h5, h6⟩, ne⟩ := h
  refine ⟨v, h5, h6.len, fun H' k e => ⟨⟨_, k.2 _ _ (fun z => by subst z; rw [h1] at h5; cases h5) h1, h2.chg k (fun _ z => nomatch z)⟩, ⟨_, k.2 _ _ ne h3, h4.chg k (fun _ z => nomatch z)⟩, ⟨_, e, (h6.chg k (fun _ z => nomatch z)).snoc (k.up hc (fun z => nomatch z))⟩, ne⟩⟩
theorem pop_of {H : Hp} {l : Addr} {xs : List V} {y : V} {Q : VK} (e : H l = some (.lst (xs ++ [y]))) (q : ∀ H', Chg l (.lst (xs ++ [y])) H H' → H' l = some (.lst xs) → Q y H') : rPop (.ref l) [] H Q :=
  ⟨l, _, y, rfl, rfl, e, by simp, by rw [List.dropLast_concat]; exact q _ (chg_upd e) upd_same⟩
theorem app_of {H : Hp} {l : Addr} {xs : List V} {y : V} {Q : VK} (e : H l = some (.lst xs)) (z : xs.length < sizeLine) (q : ∀ H', Chg l (.lst xs) H H' → H' l = some (.lst (xs ++ [y])) → Q .non H') : rAppend (.ref l) [y] H Q :=
  ⟨l, xs, y, rfl, rfl, e, z, q _ (chg_upd e) upd_same⟩
section
variable {P : Program} {w : World} {K : PySem.W.Frag} {mg : Str → Option Value} {base : Heap}
def sp_part_from (K : PySem.W.Frag) : Sp := fun vs H Q _ => ∃ (o a C : Addr) (n : T3) (L : List Nat) (p0 : Pt), vs = [.ref o, .ref a] ∧ CarC K C ∧ CarV K H o C n L ∧ H a = some (tup2 p0) ∧ p0 ∈ cellL n ∧
  ∀ x H' (M : List (Pt × Pt)) (S : List Pt) (b : Nat) kn kvs bas, H kn = none → Same H H' → DF n L p0 M S b → H' kn = some (.dT kvs) → KV H' kvs M → BasP (2 * M.length) S bas → PartV K H' x (colr n L p0) a kn M.length bas b → Q (.ref x) H'
theorem ok_part_from (T : Tx K mg) : FnR P w K mg base CX0 6 (He.ga K "part_from") (sp_part_from K) := by
  refine fnr_of T.f_part_from sc_part_from (fun _ _ _ _ _ _ us hl => match us, hl with | [_, _], _ => rfl) (fun vs H Q E h => by obtain ⟨_, _, _, _, _, _, rfl, _⟩ := h; rfl) (fun cdv A outer s H vs Q E hr h => ?_)
  have nd := sc_part_from.nd
  refine ⟨_, (pss_cons (ps_par (i := 2) (j := 3) rfl nd rfl rfl (by decide) rfl rfl (pa_cons (pe_propA (pv 0) T.pr_net (ok_Carpet_net T) (hr.mono (by decide))) (pa_cons (pe_methA (pv 0) T.me_seen (ok_Carpet_seen T) (hr.mono (by decide)) (pa_cons (pv 1) pa_nil)) pa_nil)) rfl)
    (pss_cons (ps_asg (pe_tupS (pa_cons (pe_disp1S (hu_of hr) (pv 1) (pv 1)) (pa_cons (pe_lstS (pa_cons (pv 1) pa_nil)) (pa_cons (pe_lstS pa_nil) (pa_cons pe_int pa_nil))))) (pg_tup rfl (pgs_cons (pg_name (i := 4) nd rfl (Or.inl rfl)) (pgs_cons (pg_name (i := 5) nd rfl (Or.inl rfl)) (pgs_cons (pg_name (i := 6) nd rfl (Or.inl rfl)) (pgs_cons (pg_name (i := 7) nd rfl (Or.inl rfl)) pgs_nil))))))
    (pss_cons (ps_while PassesOwn.never (pt_cmpR (op_neD (hu64 hr)) (pv 5) (pe_lstS pa_nil) (nomark _)) (pss_one (ps_for PassesOwn.never rfl (pi_list (pe_callR (ok_neighbours T) (hr.mono (by decide)) rfl T.g_neighbours T.k_neighbours (pa_cons (pe_bm0 PySem.F.plainAttrs_list PySem.F.slot_list_pop PySem.F.type_list_pop mt_pop (pv 5)) pa_nil))) (pg_name (i := 8) nd rfl (Or.inl rfl)) (pss_cons (ps_set (i := 9) nd rfl (Or.inl rfl) (pe_methR (pv 2) T.c_Net T.m_Net_place_in_cell (ok_Net_place_in_cell T) (hr.mono (by decide)) pass0 (pa_cons (pv 8) pa_nil)))
    (pss_one (ps_if (pt_cmpR op_ne (pe_methA (pv 0) T.me_seen (ok_Carpet_seen T) (hr.mono (by decide)) (pa_cons (pv 8) pa_nil)) (pv 3) (nomark _)) (pss_one (ps_aug (i := 7) nd rfl (Or.inl rfl) pe_int ip_add)) (pss_one (ps_if (pt_cmp (pc_dnotin (hu_of hr) (pv 9) (pv 4))) (pss_cons (ps_dputS (hu_of hr) (pv 4) (pv 9) (pv 8) rfl)
    (pss_one (ps_expr (pe_bm PySem.F.plainAttrs_list PySem.F.slot_list_append PySem.F.type_list_append mt_append (pv 5) (pa_cons (pv 8) pa_nil))))) (pss_one (ps_if (pt_cmpR (op_neD (hu64 hr)) (pe_dget (hu_of hr) (pv 4) (pv 9) (fun _ _ => rfl)) (pv 8) (nomark _)) (pss_one (ps_expr (pe_bm PySem.F.plainAttrs_list PySem.F.slot_list_append PySem.F.type_list_append mt_append (pv 6) (pa_cons (pe_callR (ok_minus T) (hr.mono (by decide)) rfl T.g_minus T.k_minus (pa_cons (pv 8) (pa_cons (pe_dget (hu_of hr) (pv 4) (pv 9) (fun _ _ => rfl)) pa_nil))) pa_nil)))) pss_nil))))))))))
    (pss_one (ps_ret (pe_makeS T.mk_Part (ok_Part___init__ T) (hr.mono (by decide)) rfl T.g_Part (pa_cons (pv 3) (pa_cons (pv 1) (pa_cons (pv 4) (pa_cons (pv 6) (pa_cons (pv 7) pa_nil))))))))))), ?_⟩
  try dsimp only [cxOf]
  obtain ⟨o, a, C, n, L, p0, rfl, hC, hc, ha, hp0, q⟩ := h
  obtain ⟨dx, nt, ho, hn, ok⟩ := id hc
  have hlow : low n p0 = p0 := low_self ok.net hp0
  tm_at "sx"
  refine ⟨o, C, dx, _, rfl, hC, ho, o, C, n, L, rfl, hC, hc, fun nt' hn' => ?_⟩
  tm_at "sx"
  refine ⟨o, C, dx, _, rfl, hC, ho, rfl, ?_⟩
  tm_at "sx"
  refine ⟨o, a, C, n, L, p0, rfl, hC, hc, ha, fun H1 s1 => ⟨_, _, rfl, ?_⟩⟩
  tm_at "sx"
  intro kn H2 nk s2 e2
  tm_at "sx"
  refine ⟨e2, a, kP p0, rfl, s2 _ _ (s1 _ _ ha), fun H3 k3 e3 => ?_⟩
  tm_at "sx"
  refine ⟨by show 1 ≤ sizeLine; decide, fun wl H4 nw s4 e4 => ?_⟩
  tm_at "sx"
  refine ⟨Nat.zero_le _, fun sl H5 ns s5 e5 => ?_⟩
  tm_at "sx"
  refine ⟨by show 4 ≤ sizeLine; decide, fun tt H6 nt6 s6 e6 => ?_⟩
  tm_at "sx"
  have s03 : Same H1 H3 := chg_same nk s2 k3
  have nkH : H kn = none := by
    cases z : H kn with
    | none => rfl
    | some u => rw [s1 _ _ z] at nk; cases nk
  have nwH : H wl = none := by
    cases z : H wl with
    | none => rfl
    | some u => rw [s03 _ _ (s1 _ _ z)] at nw; cases nw
  have s04 : Same H H4 := Same.trans s1 (Same.trans s03 s4)
  have nsH : H sl = none := by
    cases z : H sl with
    | none => rfl
    | some u => rw [s04 _ _ z] at ns; cases ns
  have s06 : Same H H6 := Same.trans s04 (Same.trans s5 s6)
  have r0 : SR H6 kn wl sl ⟨[(p0, p0)], [p0], [], 0⟩ := by
    refine ⟨⟨_, s6 _ _ (s5 _ _ (s4 _ _ e3)), .cons ⟨rfl, a, rfl, s06 _ _ ha⟩ .nil⟩, ⟨_, s6 _ _ (s5 _ _ e4), .cons ⟨a, rfl, s06 _ _ ha⟩ .nil⟩, ⟨_, s6 _ _ e5, .nil⟩, fun z => ?_⟩
    subst z
    rw [e4] at ns; cases ns
  refine ⟨fun m σ H' => ∃ (st : DS) (Dn : List Pt) (o8 o9 : Option V), σ = [some (.ref o), some (.ref a), some (.ref nt'), some (.str (one1 (colr n L p0))), some (.ref kn), some (.ref wl), some (.ref sl), some (.int st.b), o8, o9] ∧ meas (cellL n).length st = m ∧ Same H H' ∧ SR H' kn wl sl st ∧ DI n L (colr n L p0) p0 Dn (Dn.flatMap nbs) st,
    ⟨_, ⟨[(p0, p0)], [p0], [], 0⟩, [], none, none, rfl, rfl, s06, r0, DI.start hlow⟩, fun m σ H7 hW => ?_⟩
  obtain ⟨st, Dn, o8, o9, rfl, rfl, s07, r, di⟩ := hW
  tm_at "sx"
  refine ⟨Nat.zero_le _, fun em H8 ne s8 e8 => ?_⟩
  obtain ⟨us, hw1, hw2⟩ := (r.same s8).w
  refine w_nePs (sl_of hw1) hw2 (sl_of e8) ?_
  refine ⟨_, rfl, ?_⟩
  obtain ⟨M, W, S, b⟩ := st
  rcases List.eq_nil_or_concat W with rfl | ⟨W, p, rfl⟩
  · rw [decide_eq_true rfl]
    refine w_ff ?_
    tm_at "sx"
    obtain ⟨kvs, hk, hkv⟩ := (r.same s8).k
    obtain ⟨ss, hs, hss⟩ := (r.same s8).s
    intro x dx' H9 nx ndx hne s9 e9
    have hlen := di.len ok.net
    have hsm := ok.net.sz
    have hnat := ok.net.nat
    rw [cellL_len] at hlen
    have hk9 := s9 _ _ hk
    have nkx : kn ≠ x := fun z => by subst z; rw [nx] at hk; cases hk
    refine ⟨x, dx', colr n L p0, a, kn, sl, b, kvs, ss, S, 2 * M.length, rfl, e9, hk9, s9 _ _ hs, hss.same s9, by dsimp only at hlen; omega, di.shb, fun bas H10 k10 pv bp => ⟨rfl, ?_⟩⟩
    have s10 : Same H8 H10 := made_same (H := H) nx s9 k10
    rw [hkv.len] at pv
    exact q x H10 M S b kn kvs bas nkH (Same.trans s07 (Same.trans s8 s10)) di.done (s10 _ _ hk) (hkv.same s10) bp pv
  · rw [List.concat_eq_append] at *
    rw [decide_eq_false (by simp)]
    refine w_tt ⟨fun σ H' => ∃ (st' : DS) (Dn : List Pt) (o8 o9 : Option V), σ = [some (.ref o), some (.ref a), some (.ref nt'), some (.str (one1 (colr n L p0))), some (.ref kn), some (.ref wl), some (.ref sl), some (.int st'.b), o8, o9] ∧ meas (cellL n).length st' < meas (cellL n).length ⟨M, W ++ [p], S, b⟩ ∧ Same H H' ∧ SR H' kn wl sl st' ∧ DI n L (colr n L p0) p0 Dn (Dn.flatMap nbs) st',
      fun σ H' ⟨st', Dn, o8, o9, e, hlt, z⟩ => ⟨_, hlt, st', Dn, o8, o9, e, rfl, z⟩, ?_⟩
    tm_at "sx"
    have sr8 := r.same s8
    obtain ⟨us, c, g1, g2, g3⟩ := sr8.pop
    refine ⟨_, rfl, .inl ⟨rfl, _, sl_of g1⟩, pop_of g1 fun H9 k9 e9 => ?_⟩
    have sr9 := g3 H9 k9 e9
    have s09 : Same H H9 := chg_same nwH (Same.trans s07 s8) k9
    tm_at "sx"
    refine ⟨c, p, rfl, k9.up g2 (fun z => nomatch z), fun nl ns H10 nn s10 e10 p10 => ?_⟩
    have nne : ∀ {x : Addr} {u : HO}, H9 x = some u → nl ≠ x := fun {x u} e z => by subst z; rw [nn] at e; cases e
    refine ⟨nl, rfl, ⟨_, sl_of e10⟩, ?_⟩
    obtain ⟨di1, hpm⟩ := di.pop
    have nkn : nl ≠ kn := by obtain ⟨k, h, _⟩ := sr9.k; exact nne h
    have nwl : nl ≠ wl := by obtain ⟨k, h, _⟩ := sr9.w; exact nne h
    have nsl : nl ≠ sl := by obtain ⟨k, h, _⟩ := sr9.s; exact nne h
    refine for_list (xs := ns) (fun i σ H' => ∃ (o8 o9 : Option V), σ = [some (.ref o), some (.ref a), some (.ref nt'), some (.str (one1 (colr n L p0))), some (.ref kn), some (.ref wl), some (.ref sl), some (.int (foldN n L (colr n L p0) p i ⟨M, W, S, b⟩).b), o8, o9] ∧ Same H H' ∧ SR H' kn wl sl (foldN n L (colr n L p0) p i ⟨M, W, S, b⟩) ∧ H' nl = some (.lst ns) ∧ Ps H' ns (nbs p))
      ⟨_, _, rfl, Same.trans s09 s10, sr9.same s10, e10, p10⟩ (fun i σ H' _ hI => ?_) (fun i x σ H' hx hI => ?_) (fun σ H' hI => ?_)
    · obtain ⟨_, _, _, _, _, h, _⟩ := hI
      exact sl_of h
    · obtain ⟨o8, o9, rfl, sI, srI, hnl, pI⟩ := hI
      obtain ⟨bq, qq, rfl, hbq, hqi⟩ := pI.at hx
      obtain ⟨diI, hpI⟩ := di1.fold hpm i
      obtain ⟨diN, _⟩ := di1.fold hpm (i + 1)
      have hlen := diI.len ok.net
      have estep := foldN_succ n L (colr n L p0) p i ⟨M, W, S, b⟩ hqi
      rw [estep]
      generalize foldN n L (colr n L p0) p i ⟨M, W, S, b⟩ = stI at *
      obtain ⟨M1, W1, S1, b1⟩ := stI
      tm_at "sx"
      obtain ⟨dn', tn', hno, hnt⟩ := hn'.up sI
      refine ⟨_, dn', _, rfl, hno, rfl, ?_⟩
      tm_at "sx"
      refine ⟨_, bq, n, qq, rfl, ⟨dn', tn', hno, hnt⟩, ok.net.nw qq, hbq, fun tl H11 s11 e11 => ?_⟩
      tm_at "sx"
      refine ⟨o, C, dx, _, rfl, hC, s11 _ _ (sI _ _ ho), rfl, ?_⟩
      tm_at "sx"
      refine ⟨o, bq, C, n, L, qq, rfl, hC, (hc.up sI).up s11, s11 _ _ hbq, fun H12 s12 => ?_⟩
      tm_at "sx"
      refine ⟨_, rfl, ?_⟩
      have sr12 := (srI.same s11).same s12
      have s012 := Same.trans sI (Same.trans s11 s12)
      have hnl12 := s12 _ _ (s11 _ _ hnl)
      have p12 := (pI.same s11).same s12
      by_cases hcq : colr n L qq = colr n L p0
      · rw [show decide (one1 (colr n L qq) = one1 (colr n L p0)) = true from decide_eq_true (congrArg one1 hcq)]
        refine w_ff ?_
        have ed : dn n L (colr n L p0) ⟨M1, W1, S1, b1⟩ qq = match fnd M1 (low n qq) with
            | none => ⟨M1 ++ [(low n qq, qq)], W1 ++ [qq], S1, b1⟩
            | some r => if r ≠ qq then ⟨M1, W1, S1 ++ [psub qq r], b1⟩ else ⟨M1, W1, S1, b1⟩ := by
          unfold dn; rw [if_neg (fun z => z hcq)] <;> rfl
        rw [ed]
        obtain ⟨kvs, hkn, hkv⟩ := id sr12.k
        have htl := s12 _ _ e11
        have hbq2 := s12 _ _ (s11 _ _ hbq)
        tm_at "sx"
        refine ⟨_, rfl, _, rfl, kn, _, rfl, DGet.t (k := kP (low n qq)) hkn htl, ?_⟩
        cases ef : fnd M1 (low n qq) with
        | none =>
          rw [hkv.none ef]
          refine ⟨_, rfl, w_tt ?_⟩
          tm_at "sx"
          obtain ⟨kvs2, hk2, hl2, hput⟩ := sr12.put ef hbq2
          refine ⟨_, rfl, _, rfl, _, rfl, kn, tl, kvs2, kP (low n qq), rfl, rfl, hk2, htl, by rw [hl2]; have := sizeLine_eq; have := ok.net.nat; have := ok.net.sz; rw [cellL_len] at hlen; dsimp only at hlen; omega, fun H13 k13 e13 => ?_⟩
          have sr13 := hput H13 k13 e13
          have s013 : Same H H13 := chg_same nkH s012 k13
          obtain ⟨us3, hw3, hl3, hpush⟩ := sr13.push (k13.up hbq2 (fun z => nomatch z))
          tm_at "sx"
          refine ⟨_, rfl, .inl ⟨rfl, _, sl_of hw3⟩, ?_⟩
          tm_at "sx"
          have hsm := ok.net.sz
          have hnat := ok.net.nat
          have hpl : (Dn ++ [p] ++ W1).length = M1.length := by rw [diI.perm.length_eq, List.length_map]
          refine app_of hw3 (by rw [hl3]; have := sizeLine_eq; rw [cellL_len] at hlen; dsimp only at hlen; rw [List.length_append] at hpl; omega) fun H14 k14 e14 => ?_
          have sr14 := hpush H14 k14 e14
          have knl := k14.2 _ _ nwl (k13.2 _ _ nkn hnl12)
          exact ⟨_, _, rfl, chg_same nwH s013 k14, sr14, knl, (p12.chg k13 (fun _ z => nomatch z)).chg k14 (fun _ z => nomatch z)⟩
        | some r =>
          obtain ⟨br, hbr, hbr2⟩ := hkv.some ef
          rw [hbr]
          refine ⟨_, rfl, w_ff ?_⟩
          tm_at "sx"
          refine ⟨_, rfl, _, rfl, kn, .ref br, rfl, by rw [← hbr]; exact DGet.t (k := kP (low n qq)) hkn htl, ?_⟩
          tm_at "sx"
          refine w_nePl (x := r.1) (y := r.2) (u := qq.1) (v := qq.2) (sq_of hbr2) (sq_of hbq2) ?_
          refine ⟨_, rfl, ?_⟩
          by_cases hrq : r = qq
          · rw [show decide ((r.1, r.2) = (qq.1, qq.2)) = true from decide_eq_true (by rw [hrq])]
            refine w_ff ?_
            tm_at "sx"
            dsimp only
            rw [if_neg (fun z => z hrq)]
            exact ⟨_, _, rfl, s012, sr12, hnl12, p12⟩
          · rw [show decide ((r.1, r.2) = (qq.1, qq.2)) = false from decide_eq_false hrq]
            refine w_tt ?_
            dsimp only
            rw [if_pos hrq]
            tm_at "sx"
            obtain ⟨ss0, hss0, _⟩ := id sr12.s
            refine ⟨_, rfl, .inl ⟨rfl, _, sl_of hss0⟩, ?_⟩
            tm_at "sx"
            refine ⟨_, rfl, _, rfl, kn, .ref br, rfl, by rw [← hbr]; exact DGet.t (k := kP (low n qq)) hkn htl, ?_⟩
            tm_at "sx"
            refine ⟨bq, br, qq.1, qq.2, r.1, r.2, rfl, sq_of hbq2, sq_of hbr2, fun sp H13 s13 e13 => ?_⟩
            tm_at "sx"
            obtain ⟨us3, hs3, hl3, hsh⟩ := (sr12.same s13).shift (q := psub qq r) e13
            have hnl13 := s13 _ _ hnl12
            refine app_of hs3 (by
              rw [hl3]
              have h1 := diI.sl
              rw [List.length_append, flat_nbs] at h1
              have h2 : ((nbs p).take i).length ≤ 4 := by rw [List.length_take, nbs_len]; omega
              have h3 : (Dn ++ [p] ++ W1).length = M1.length := by rw [diI.perm.length_eq, List.length_map]
              have hsm := ok.net.sz
              have hnat := ok.net.nat
              have := sizeLine_eq
              rw [cellL_len] at hlen
              rw [List.length_append, List.length_append] at h3
              dsimp only at hlen h1
              omega) fun H14 k14 e14 => ?_
            exact ⟨_, _, rfl, chg_same nsH (Same.trans s012 s13) k14, hsh H14 k14 e14, k14.2 _ _ nsl hnl13, (p12.same s13).chg k14 (fun _ z => nomatch z)⟩
      · rw [show decide (one1 (colr n L qq) = one1 (colr n L p0)) = false from decide_eq_false (fun z => hcq (one1_inj.mp z))]
        refine w_tt ?_
        have ed : dn n L (colr n L p0) ⟨M1, W1, S1, b1⟩ qq = ⟨M1, W1, S1, b1 + 1⟩ := by
          unfold dn; rw [if_pos hcq]
        rw [ed]
        refine ⟨_, rfl, _, _, rfl, rfl, ?_⟩
        exact ⟨_, _, rfl, s012, ⟨sr12.k, sr12.w, sr12.s, sr12.ne⟩, hnl12, p12⟩
    · obtain ⟨o8, o9, rfl, sI, srI, hnl, pI⟩ := hI
      have hl4 : ns.length = 4 := pI.len
      rw [hl4] at srI ⊢
      refine ⟨_, Dn ++ [p], o8, o9, rfl, ?_, sI, srI, di.round⟩
      refine Nat.lt_of_le_of_lt (di1.fold_meas ok.net hpm 4) ?_
      unfold meas
      simp
end
end Cp
set_option Elab.async false
set_option linter.all false
set_option maxRecDepth 100000
set_option maxHeartbeats 2000000
/-! F18: `for .. in net.cell()`. -/
namespace Cp
open PySem PySem.Spec PyProof.Rows L2
open SG (TGI PGI tCellG pgi_cell gpX)
local macro_rules | `(tactic| tm_at "fact") => `(tactic| first
  | assumption
  | (apply Same.up; · assumption
     tm_at "fact")
  | (apply Same.upS; · assumption
     tm_at "fact")
  | (apply Same.upL; · assumption
     tm_at "fact")
  | (apply sq_of; tm_at "fact")
  | (apply sl_of; tm_at "fact")
  | (apply Chg.up; · assumption
     · tm_at "fact"
     · exact fun z => nomatch z)
  | (apply Chg.upS; · assumption
     · tm_at "fact"
     · exact fun _ z => nomatch z
     · exact fun _ _ z => nomatch z))
local macro_rules | `(tactic| tm_at "same") => `(tactic| first
  | assumption
  | exact Same.refl _
  | (refine Same.trans ?_ ?_; rotate_left; · assumption
     tm_at "same"))
local macro_rules | `(tactic| tm_at "sx1") => `(tactic| with_reducible first
  | refine w_var rfl ?_
  | refine w_c ?_
  | refine w_op ?_
  | refine w_seq ?_
  | refine w_asg ?_
  | refine w_gname ?_
  | refine w_ret ?_
  | refine w_nil ?_
  | refine w_cons ?_
  | refine w_tup ?_
  | refine w_lst ?_
  | refine w_cb ?_
  | refine w_callR ?_
  | refine w_i0 ?_
  | refine w_gcons ?_
  | refine w_gnil ?_
  | refine w_test ?_
  | refine w_not ?_
  | refine w_ifs ?_
  | refine w_if ?_
  | refine w_expr ?_
  | refine w_eqI ?_
  | refine w_neI ?_
  | refine w_eqS ?_
  | refine w_neS ?_
  | refine w_or ?_
  | refine w_and ?_
  | refine w_par3 ?_
  | refine w_andV ?_
  | refine w_notV ?_
  | refine w_lcS ?_
  | refine w_forE ?_
  | refine w_m1 ?_
  | refine w_forL ?_
  | refine w_forR1 ?_
  | refine w_isN ?_
  | refine w_notN ?_
  | refine w_fld ?_
  | refine w_methR ?_
  | refine w_propR ?_
  | refine w_propA ?_
  | refine w_methA ?_
  | refine w_subA ?_
  | refine w_makeS ?_
  | refine w_fldS ?_
  | refine w_chain ?_
  | refine w_orV ?_
  | refine w_next ?_
  | refine w_tB ?_
  | refine w_lcL ?_
  | refine w_lcT ?_
  | refine w_lcR1 ?_
  | refine w_lcR2 ?_
  | refine w_turn ?_
  | refine w_yes ?_
  | refine w_par ?_
  | refine w_uI ?_
  | refine w_un ?_
  | refine w_one ?_)
local macro_rules | `(tactic| tm_at "at") => `(tactic| first | exact rfl | exact atI_nat rfl)
local macro_rules | `(tactic| tm_at "ix") => `(tactic| first
  | (with_reducible apply w_ixT; · tm_at "fact"
     · tm_at "at")
  | (with_reducible apply w_ixL; · tm_at "fact"
     · tm_at "at")
  | (with_reducible apply w_gtup; · tm_at "fact"
     · exact rfl))
local macro_rules | `(tactic| tm_at "sx") => `(tactic| repeat (first | tm_at "sx1" | tm_at "ix"))
def tNetG (K : PySem.W.Frag) (ta : TE) : TGI := fun σ H R => ta σ H fun x H1 => ∃ (b : Addr) (n : T3), x = .ref b ∧ NetV K H1 b n ∧ NOk n ∧ R (cellL n) H1
theorem pgi_net {X : Cx} {k : Nat} {o : Expr} {ta : TE} {apos pos' : Pos} {pl : Sem Bool} (T : Tx X.K X.mg) (hr : Room k X.A) (ho : PE X o ta)
    (ht : eval (.Call (.Attribute o "cell" apos) [] [] pos') X.env = (do
      let ov ← eval o X.env
      standAt apos.atName
      let (f, first) ← holding [ov] (getMethod ov "cell" pl)
      callWith pos' f first (backTo pos' (starEach [] X.env)) (backToKw pos' (keywordEach [] X.env))) := by rfl) :
    PGI X X.A.in1 (.Call (.Attribute o "cell" apos) [] [] pos') (tNetG X.K ta) := by
  obtain ⟨fd, F⟩ := T.f_Net_cell
  obtain ⟨oc, od, dV, kV, doc, pm, an, cdv, ct, osl, rfl, lk, hcd, hD, hK⟩ := F.ex
  have hb := F.bindsN (ps := PNet_cell) (fun _ _ _ _ _ _ us hl => match us, hl with | [_], _ => rfl)
  have nd := sc_Net_cell.nd
  have hcell := pgi_cell (X := X) (k := k) (o := o) (ta := fun σ' H' Q' => ∃ W : VK, ta σ' H' W ∧ ∀ y H2, W y H2 → Q' y H2) (m := "cell") (N := NNet_cell) (ia := 1) (ic := 3) (iy := 4) (ix := 5) (pl := pl) (apos := apos) (pos' := pos')
    (t := tAsg (tFld X.K (tVar 0) "own_numbers") (gTup X.K 3 (gCons (gName 1) (gCons (gName 2) (gCons (gName 3) gNil)))))
    hr ⟨fun pins s σ' H' Q' I ⟨W, hW, h2⟩ => wpAny_mono (ho.run pins s σ' H' W I hW) (fun _ _ ⟨y, H1, I1, r, z⟩ => ⟨y, H1, I1, r, h2 _ _ z⟩) fun _ _ z => z⟩ T.c_Net T.m_Net_cell lk hcd hb sc_Net_cell (by decide +kernel)
    (fun _ _ _ => ps_asg (pe_fld (pv 0) rfl) (pg_tup rfl (pgs_cons (pg_name (i := 1) nd rfl (Or.inl rfl)) (pgs_cons (pg_name (i := 2) nd rfl (Or.inl rfl)) (pgs_cons (pg_name (i := 3) nd rfl (Or.inl rfl)) pgs_nil)))))
    (fun _ _ _ => pg_name (i := 5) nd rfl (Or.inl rfl)) (fun _ _ _ => pg_name (i := 4) nd rfl (Or.inl rfl))
    (fun _ _ _ => pi_range1 rfl T.b_range (pa_cons (pv 1) pa_nil)) (fun _ _ _ => pi_range1 rfl T.b_range (pa_cons (pv 3) pa_nil))
    (fun _ _ _ => pe_tup (pa_cons (pv 5) (pa_cons (pv 4) pa_nil))) (by decide) (by decide) (by decide) (fun _ => rfl) (fun _ _ => rfl) (fun _ _ => rfl) (by decide) ht
  refine ⟨fun pins s σ H R I h => hcell.run pins s σ H R I ⟨_, h, fun x H1 ⟨b, n, ex, hn, ok, q⟩ => ?_⟩⟩
  obtain ⟨dx, t, hbo, hbt⟩ := hn
  have := ok.a1
  have := ok.a2
  have := ok.c1
  have := ok.c2
  refine ⟨b, dx, _, n.1.toNat, n.2.2.toNat, ex, hbo, rfl, by omega, by omega, fun H2 s2 => ?_, q⟩
  tm_at "sx"
  refine ⟨_, _, _, _, _, rfl, s2 _ _ hbo, T.c_Net, T.n_Net_own_numbers, rfl, ?_⟩
  refine w_gtup (sq_of (s2 _ _ hbt)) rfl ?_
  tm_at "sx"
  refine ⟨?_, ?_, rfl⟩
  · show some (some (V.int n.1)) = _
    rw [show ((n.1.toNat : Nat) : Int) = n.1 by omega]
  · show some (some (V.int n.2.2)) = _
    rw [show ((n.2.2.toNat : Nat) : Int) = n.2.2 by omega]
end Cp
set_option Elab.async false
set_option linter.all false
set_option maxRecDepth 100000
set_option maxHeartbeats 2000000
/-! F19: parts. -/
namespace Cp
open PySem PySem.Spec PyProof.Rows L2
open SG (ps_forG pe_lcG ps_setLcG tForG tLcG)
local macro_rules | `(tactic| tm_at "fact") => `(tactic| first
  | assumption
  | (apply Same.up; · assumption
     tm_at "fact")
  | (apply Same.upS; · assumption
     tm_at "fact")
  | (apply Same.upL; · assumption
     tm_at "fact")
  | (apply sq_of; tm_at "fact")
  | (apply sl_of; tm_at "fact")
  | (apply Chg.up; · assumption
     · tm_at "fact"
     · exact fun z => nomatch z)
  | (apply Chg.upS; · assumption
     · tm_at "fact"
     · exact fun _ z => nomatch z
     · exact fun _ _ z => nomatch z))
local macro_rules | `(tactic| tm_at "same") => `(tactic| first
  | assumption
  | exact Same.refl _
  | (refine Same.trans ?_ ?_; rotate_left; · assumption
     tm_at "same"))
local macro_rules | `(tactic| tm_at "sx1") => `(tactic| with_reducible first
  | refine w_var rfl ?_
  | refine w_c ?_
  | refine w_op ?_
  | refine w_seq ?_
  | refine w_asg ?_
  | refine w_gname ?_
  | refine w_ret ?_
  | refine w_nil ?_
  | refine w_cons ?_
  | refine w_tup ?_
  | refine w_lst ?_
  | refine w_cb ?_
  | refine w_callR ?_
  | refine w_i0 ?_
  | refine w_gcons ?_
  | refine w_gnil ?_
  | refine w_test ?_
  | refine w_not ?_
  | refine w_ifs ?_
  | refine w_if ?_
  | refine w_expr ?_
  | refine w_eqI ?_
  | refine w_neI ?_
  | refine w_eqS ?_
  | refine w_neS ?_
  | refine w_or ?_
  | refine w_and ?_
  | refine w_par3 ?_
  | refine w_andV ?_
  | refine w_notV ?_
  | refine w_lcS ?_
  | refine w_forE ?_
  | refine w_m1 ?_
  | refine w_forL ?_
  | refine w_forR1 ?_
  | refine w_isN ?_
  | refine w_notN ?_
  | refine w_fld ?_
  | refine w_methR ?_
  | refine w_propR ?_
  | refine w_propA ?_
  | refine w_methA ?_
  | refine w_subA ?_
  | refine w_makeS ?_
  | refine w_fldS ?_
  | refine w_chain ?_
  | refine w_orV ?_
  | refine w_next ?_
  | refine w_tB ?_
  | refine w_lcL ?_
  | refine w_lcT ?_
  | refine w_lcR1 ?_
  | refine w_lcR2 ?_
  | refine w_turn ?_
  | refine w_yes ?_
  | refine w_par ?_
  | refine w_uI ?_
  | refine w_un ?_
  | refine w_one ?_)
local macro_rules | `(tactic| tm_at "at") => `(tactic| first | exact rfl | exact atI_nat rfl)
local macro_rules | `(tactic| tm_at "ix") => `(tactic| first
  | (with_reducible apply w_ixT; · tm_at "fact"
     · tm_at "at")
  | (with_reducible apply w_ixL; · tm_at "fact"
     · tm_at "at")
  | (with_reducible apply w_gtup; · tm_at "fact"
     · exact rfl))
local macro_rules | `(tactic| tm_at "sx") => `(tactic| repeat (first | tm_at "sx1" | tm_at "ix"))
/-- a part as data -/
structure PD where
  p0 : Pt
  M : List (Pt × Pt)
  S : List Pt
  b : Nat
  bas : List Pt
def PartD (K : PySem.W.Frag) (N : Addr → Prop) (H : Hp) (n : T3) (L : List Nat) (v : V) (d : PD) : Prop := ∃ (x a kn : Addr) (kvs : List (List Key × V)), v = .ref x ∧ H a = some (tup2 d.p0) ∧ N kn ∧ H kn = some (.dT kvs) ∧ KV H kvs d.M ∧ PartV K H x (colr n L d.p0) a kn d.M.length d.bas d.b
theorem PartD.same {K : PySem.W.Frag} {N : Addr → Prop} {H H' : Hp} {n : T3} {L : List Nat} {v : V} {d : PD} (s : Same H H') (h : PartD K N H n L v d) : PartD K N H' n L v d := by
  obtain ⟨x, a, kn, kvs, h1, h2, h0, h3, h4, h5⟩ := h
  exact ⟨x, a, kn, kvs, h1, s _ _ h2, h0, s _ _ h3, h4.same s, h5.up s⟩
theorem PartD.keep {K : PySem.W.Frag} {N : Addr → Prop} {H H' : Hp} {n : T3} {L : List Nat} {v : V} {d : PD} {p : Addr} {o : HO} (hp : H p = some o) (ho : (∃ xs, o = .lst xs) ∨ (∃ kvs, o = .dT kvs) ∧ ∀ a, N a → a ≠ p) (k : ∀ a u, a ≠ p → H a = some u → H' a = some u) (h : PartD K N H n L v d) : PartD K N H' n L v d := by
  obtain ⟨x, a, kn, kvs, h1, h2, h0, h3, h4, dx, bs, g1, us, g2, g3⟩ := h
  have nt : ∀ {b : Addr} {xs : List V}, H b = some (.tup xs) → H' b = some (.tup xs) := fun {b xs} e => k _ _ (fun z => by
    subst z; rw [hp] at e
    rcases ho with ⟨ys, rfl⟩ | ⟨⟨ys, rfl⟩, _⟩ <;> cases e) e
  have ni : ∀ {b : Addr} {C dx fs}, H b = some (.ins C dx fs) → H' b = some (.ins C dx fs) := fun {b C dx fs} e => k _ _ (fun z => by
    subst z; rw [hp] at e
    rcases ho with ⟨ys, rfl⟩ | ⟨⟨ys, rfl⟩, _⟩ <;> cases e) e
  have nd : H' kn = some (.dT kvs) := k _ _ (fun z => by
    rcases ho with ⟨ys, rfl⟩ | ⟨⟨ys, rfl⟩, h⟩
    · subst z; rw [hp] at h3; cases h3
    · exact h _ h0 z) h3
  exact ⟨x, a, kn, kvs, h1, nt h2, h0, nd, Paired.mapP h4 fun _ _ ⟨e, b, eb, hb⟩ => ⟨e, b, eb, nt hb⟩, dx, bs, ni g1, us, nt g2, Paired.mapP g3 fun _ _ ⟨b, e, hb⟩ => ⟨b, e, nt hb⟩⟩
def PDs (K : PySem.W.Frag) (N : Addr → Prop) (H : Hp) (n : T3) (L : List Nat) : List V → List PD → Prop := Paired (PartD K N H n L)
theorem PDs.same {K : PySem.W.Frag} {N : Addr → Prop} {H H' : Hp} {n : T3} {L : List Nat} {us : List V} {ds : List PD} (s : Same H H') (h : PDs K N H n L us ds) : PDs K N H' n L us ds := Paired.mapP h fun _ _ => PartD.same s
theorem PDs.keep {K : PySem.W.Frag} {N : Addr → Prop} {H H' : Hp} {n : T3} {L : List Nat} {us : List V} {ds : List PD} {p : Addr} {o : HO} (hp : H p = some o) (ho : (∃ xs, o = .lst xs) ∨ (∃ kvs, o = .dT kvs) ∧ ∀ a, N a → a ≠ p) (k : ∀ a u, a ≠ p → H a = some u → H' a = some u) (h : PDs K N H n L us ds) : PDs K N H' n L us ds := Paired.mapP h fun _ _ => PartD.keep hp ho k
theorem PDs.weak {K : PySem.W.Frag} {N : Addr → Prop} {H : Hp} {n : T3} {L : List Nat} {us : List V} {ds : List PD} (h : PDs K N H n L us ds) : PDs K (fun _ => True) H n L us ds := Paired.mapP h fun _ _ ⟨x, a, kn, kvs, h1, h2, _, h3⟩ => ⟨x, a, kn, kvs, h1, h2, True.intro, h3⟩
theorem PDs.snoc {K : PySem.W.Frag} {N : Addr → Prop} {H : Hp} {n : T3} {L : List Nat} {us : List V} {ds : List PD} {v : V} {d : PD} (h : PDs K N H n L us ds) (g : PartD K N H n L v d) : PDs K N H n L (us ++ [v]) (ds ++ [d]) := by
  induction h with
  | nil => exact .cons g .nil
  | cons r _ ih => exact .cons r ih
/-- what a part's data tell -/
structure PDok (n : T3) (L : List Nat) (d : PD) : Prop where
  cell : d.p0 ∈ cellL n
  df : DF n L d.p0 d.M d.S d.b
  bas : BasP (2 * d.M.length) d.S d.bas
def keysOf (ds : List PD) : List Pt := ds.flatMap fun d => d.M.map (·.1)
/-- the parts found so far -/
structure PsOk (n : T3) (L : List Nat) (ds : List PD) : Prop where
  all : ∀ d ∈ ds, PDok n L d
  new : ds.Pairwise fun d e => e.p0 ∉ d.M.map (·.1)
theorem for_keysT {d : Addr} {o : Obj} {kvs : List (List Key × V)} {g : TG} {tb : TS} {D : Ends} {σ : L2.St} {H : Hp} (Pv : Nat → L2.St → Hp → Prop) (h0 : Pv 0 σ H) (hl : ∀ i σ H, i ≤ kvs.length → Pv i σ H → H d = some (.frz o (.dT kvs)))
    (hs : ∀ i k v q σ H, kvs[i]? = some (k, v) → H q = some (.tup (k.map kV)) → Pv i σ H → g (.ref q) σ H fun σ2 H2 => tb { D with nx := Pv (i + 1), ct := Pv (i + 1), bk := D.nx } σ2 H2) (hd : ∀ σ H, Pv kvs.length σ H → D.nx σ H) : ForW (Itkt d o kvs) g tb D σ H := by
  refine ⟨fun i m σ H => m = kvs.length - i ∧ i ≤ kvs.length ∧ Pv i σ H, ⟨kvs.length, by simp, Nat.zero_le _, h0⟩, ?_⟩
  rintro i m σ H ⟨rfl, hi, p⟩
  have q := hl i σ H hi p
  by_cases hlt : i < kvs.length
  · refine .inr ⟨⟨q, hlt⟩, Pv (i + 1), fun σ' H' p' => ⟨kvs.length - (i + 1), by omega, rfl, hlt, p'⟩, fun x H' y => ?_⟩
    obtain ⟨e, k, v, b, y1, rfl, y3⟩ := y
    subst e
    exact hs i k v b σ _ y1 y3 p
  · have e : i = kvs.length := by omega
    subst e
    exact .inl ⟨⟨q, Nat.le_refl _⟩, hd σ H p⟩
theorem kv_at {H : Hp} {kvs : List (List Key × V)} {M : List (Pt × Pt)} (h : KV H kvs M) {i : Nat} {k : List Key} {v : V} (e : kvs[i]? = some (k, v)) : ∃ m, M[i]? = some m ∧ k = kP m.1 := by
  induction h generalizing i with
  | nil => cases e
  | @cons a b l1 l2 r _ ih =>
    cases i with
    | zero => cases e; exact ⟨b, rfl, r.1⟩
    | succ i => exact ih (i := i) e
theorem PsOk.len {n : T3} {L : List Nat} {ds : List PD} (h : PsOk n L ds) : ds.length ≤ (cellL n).length := by
  have hm : ∀ d ∈ ds, d.p0 ∈ d.M.map (·.1) := fun d hd => List.mem_map.mpr ⟨(d.p0, d.p0), List.mem_of_getElem? (h.all d hd).df.head, rfl⟩
  have nd : (ds.map (·.p0)).Nodup := by
    rw [List.nodup_iff_pairwise_ne, List.pairwise_map]
    exact h.new.imp_of_mem fun {d e} hd he hn z => hn (z ▸ hm d hd)
  have := nodup_sub_len (ds.map (·.p0)) (cellL n) nd fun x hx => by
    obtain ⟨d, hd, rfl⟩ := List.mem_map.mp hx
    exact (h.all d hd).cell
  rwa [List.length_map] at this
def addK (Ks : List Pt) (k : Pt) : List Pt := if k ∈ Ks then Ks else Ks ++ [k]
/-- the keys of a dict -/
def KS (n : T3) (kvs : List (List Key × V)) (Ks : List Pt) : Prop := kvs.map (·.1) = Ks.map kP ∧ Ks.Nodup ∧ ∀ k ∈ Ks, k ∈ cellL n
theorem KS.mem {n : T3} {kvs : List (List Key × V)} {Ks : List Pt} (h : KS n kvs Ks) (k : Pt) : kP k ∈ kvs.map (·.1) ↔ k ∈ Ks := by
  rw [h.1, List.mem_map]
  exact ⟨fun ⟨x, hx, e⟩ => kP_inj.mp e ▸ hx, fun hx => ⟨k, hx, rfl⟩⟩
theorem KS.val {n : T3} {kvs : List (List Key × V)} {Ks : List Pt} (h : KS n kvs Ks) (k : Pt) : (valV kvs (kP k)).isSome = decide (k ∈ Ks) := by
  unfold valV
  rw [Option.isSome_map]
  by_cases z : k ∈ Ks
  · rw [decide_eq_true z, List.find?_isSome]
    obtain ⟨kv, h1, h2⟩ := List.mem_map.mp ((h.mem k).mpr z)
    exact ⟨kv, h1, decide_eq_true h2⟩
  · rw [decide_eq_false z]
    cases e : kvs.find? fun kv => decide (kv.1 = kP k) with
    | none => rfl
    | some kv => exact absurd ((h.mem k).mp (List.mem_map.mpr ⟨kv, List.mem_of_find?_eq_some e, of_decide_eq_true (List.find?_some (p := fun kv : List Key × V => decide (kv.1 = kP k)) e)⟩)) z
theorem KS.put {n : T3} {kvs : List (List Key × V)} {Ks : List Pt} (h : KS n kvs Ks) {k : Pt} (hk : k ∈ cellL n) (v : V) : KS n (putK kvs (kP k) v) (addK Ks k) := by
  unfold putK addK
  by_cases z : k ∈ Ks
  · rw [if_pos z, if_pos]
    · refine ⟨?_, h.2⟩
      rw [List.map_map, ← h.1]
      refine List.map_congr_left fun kv _ => ?_
      show (if kv.1 = kP k then (kv.1, v) else kv).1 = kv.1
      split <;> rfl
    · obtain ⟨kv, h1, h2⟩ := List.mem_map.mp ((h.mem k).mpr z)
      exact List.any_eq_true.mpr ⟨kv, h1, decide_eq_true h2⟩
  · rw [if_neg z, if_neg]
    · refine ⟨by rw [List.map_append, List.map_append, h.1]; rfl, List.nodup_append.mpr ⟨h.2.1, by simp, fun a ha b hb e => ?_⟩, fun x hx => ?_⟩
      · obtain rfl : b = k := by simpa using hb
        exact z (e ▸ ha)
      · rcases List.mem_append.mp hx with y | y
        · exact h.2.2 x y
        · obtain rfl : x = k := by simpa using y
          exact hk
    · intro y
      obtain ⟨kv, h1, h2⟩ := List.any_eq_true.mp y
      exact z ((h.mem k).mp (List.mem_map.mpr ⟨kv, h1, of_decide_eq_true h2⟩))
theorem KS.len {n : T3} {kvs : List (List Key × V)} {Ks : List Pt} (h : KS n kvs Ks) : kvs.length ≤ (cellL n).length := by
  have e : kvs.length = Ks.length := by rw [← List.length_map (f := (·.1)) (as := kvs), h.1, List.length_map]
  rw [e]; exact nodup_sub_len Ks (cellL n) h.2.1 h.2.2
section
variable {P : Program} {w : World} {K : PySem.W.Frag} {mg : Str → Option Value} {base : Heap}
def sp_parts (K : PySem.W.Frag) : Sp := fun vs H Q _ => ∃ (o C : Addr) (n : T3) (L : List Nat), vs = [.ref o] ∧ CarC K C ∧ CarV K H o C n L ∧
  ∀ l us ds H', H l = none → Same H H' → H' l = some (.lst us) → PDs K (fun _ => True) H' n L us ds → PsOk n L ds → (∀ p ∈ cellL n, p ∈ keysOf ds) → Q (.ref l) H'
theorem ok_parts (T : Tx K mg) : FnR P w K mg base CX0 7 (He.ga K "parts") (sp_parts K) := by
  refine fnr_of T.f_parts sc_parts (fun _ _ _ _ _ _ us hl => match us, hl with | [_], _ => rfl) (fun vs H Q E h => by obtain ⟨_, _, _, _, rfl, _⟩ := h; rfl) (fun cdv A outer s H vs Q E hr h => ?_)
  have nd := sc_parts.nd
  refine ⟨_, (pss_cons (ps_par (i := 1) (j := 2) rfl nd rfl rfl (by decide) rfl rfl (pa_cons (pe_lstS pa_nil) (pa_cons pe_dnewS pa_nil)) rfl)
    (pss_cons (ps_forG rfl hr (pgi_net T hr (pe_propA (pv 0) T.pr_net (ok_Carpet_net T) (hr.mono (by decide)))) (pg_name (i := 3) nd rfl (Or.inl rfl)) (pss_one (ps_if (pt_cmp (pc_dnotin (hu_of hr) (pv 3) (pv 2))) (pss_cons (ps_set (i := 4) nd rfl (Or.inl rfl) (pe_callR (ok_part_from T) (hr.mono (by decide)) rfl T.g_part_from T.k_part_from (pa_cons (pv 0) (pa_cons (pv 3) pa_nil))))
    (pss_cons (ps_expr (pe_bm PySem.F.plainAttrs_list PySem.F.slot_list_append PySem.F.type_list_append mt_append (pv 1) (pa_cons (pv 4) pa_nil)))
    (pss_one (ps_lock (ps_for PassesOwn.never rfl (pi_keys (pe_fld (pv 4) rfl)) (pg_name (i := 5) nd rfl (Or.inl rfl)) (pss_one (ps_dputS (hu_of hr) (pv 2) (pv 5) pe_bl rfl))))))) pss_nil)))
    (pss_one (ps_ret (pv 1))))), ?_⟩
  try dsimp only [cxOf]
  obtain ⟨o, C, n, L, rfl, hC, hc, q⟩ := h
  obtain ⟨dx, nt, ho, hn, ok⟩ := id hc
  tm_at "sx"
  refine ⟨Nat.zero_le _, fun fl H1 nf s1 e1 => ?_⟩
  tm_at "sx"
  intro kn H2 nk s2 e2
  refine ⟨_, _, rfl, ?_⟩
  refine w_seq ?_
  have ne1 : fl ≠ kn := fun z => by subst z; rw [e1] at nk; cases nk
  have s02 : Same H H2 := Same.trans s1 s2
  show tPropA (CarC K) (sp_Carpet_net K) (tVar 0) _ H2 _
  refine ⟨_, rfl, o, C, dx, _, rfl, hC, s02 _ _ ho, o, C, n, L, rfl, hC, hc.up s02, fun nt' hn' => ?_⟩
  refine ⟨nt', n, rfl, hn', ok.net, ?_⟩
  refine ⟨fun its σ H' => ∃ (dn : List Pt) (ds : List PD) (kvs : List (List Key × V)) (Ks : List Pt) (us : List V) (o3 o4 o5 : Option V), σ = [some (.ref o), some (.ref fl), some (.ref kn), o3, o4, o5] ∧ cellL n = dn ++ its ∧ Same H H' ∧ H' fl = some (.lst us) ∧ PDs K (fun a => a ≠ kn) H' n L us ds ∧ H' kn = some (.dT kvs) ∧ KS n kvs Ks ∧ PsOk n L ds ∧ (∀ k, k ∈ Ks ↔ k ∈ keysOf ds) ∧ ∀ p ∈ dn, p ∈ Ks,
    ⟨[], [], [], [], [], none, none, none, rfl, rfl, s02, s2 _ _ e1, .nil, e2, ⟨rfl, by simp, (fun _ h => by cases h)⟩, ⟨(fun _ h => by cases h), .nil⟩, (fun k => by simp [keysOf]), (fun _ h => by cases h)⟩, fun σ H' hW => ?_, ?_⟩
  · obtain ⟨dn, ds, kvs, Ks, us, o3, o4, o5, rfl, hcell, sI, hfl, hds, hkn, hks, hok, hk, hdn⟩ := hW
    tm_at "sx"
    exact q fl us ds H' nf sI hfl hds.weak hok (fun p hp => (hk p).mp (hdn p (by rw [hcell] at hp; simpa using hp)))
  · rintro px py r σ H' ⟨dn, ds, kvs, Ks, us, o3, o4, o5, rfl, hcell, sI, hfl, hds, hkn, hks, hok, hk, hdn⟩ t nt
    have s3 : Same H' (upd H' t (.tup [.int px, .int py])) := same_upd nt
    have e3 : upd H' t (.tup [.int px, .int py]) t = some (tup2 (px, py)) := upd_same
    generalize upd H' t (.tup [.int px, .int py]) = H3 at *
    have hpc : (px, py) ∈ cellL n := by rw [hcell]; simp
    have hkn3 := s3 _ _ hkn
    tm_at "sx"
    refine ⟨_, rfl, _, rfl, kn, _, rfl, DGet.t (k := kP (px, py)) hkn3 e3, ?_⟩
    rw [hks.val]
    refine ⟨_, rfl, ?_⟩
    by_cases hin : (px, py) ∈ Ks
    · rw [decide_eq_true hin]
      refine w_ff ?_
      tm_at "sx"
      exact ⟨dn ++ [(px, py)], ds, kvs, Ks, us, _, _, _, rfl, by rw [hcell]; simp, Same.trans sI s3, s3 _ _ hfl, hds.same s3, hkn3, hks, hok, hk, fun p hp => by
        rcases List.mem_append.mp hp with z | z
        · exact hdn p z
        · obtain rfl : p = (px, py) := by simpa using z
          exact hin⟩
    · rw [decide_eq_false hin]
      refine w_tt ?_
      tm_at "sx"
      refine ⟨o, t, C, n, L, (px, py), rfl, hC, (hc.up sI).up s3, e3, hpc, fun x H4 M S b kp kvp bas nkp s4 df hkp hkv bp pv => ?_⟩
      tm_at "sx"
      have hsl := sizeLine_eq
      have hsm := ok.net.sz
      have hnat := ok.net.nat
      have hcl : (cellL n).length ≤ 4000 := by rw [cellL_len]; omega
      have s04 : Same H' H4 := Same.trans s3 s4
      have hfl4 := s04 _ _ hfl
      have hus : us.length = ds.length := Paired.length hds
      have hdl := hok.len
      refine ⟨_, rfl, .inl ⟨rfl, _, sl_of hfl4⟩, ?_⟩
      tm_at "sx"
      refine app_of hfl4 (by omega) fun H5 k5 e5 => ?_
      have npk : kp ≠ kn := fun z => by subst z; rw [hkn3] at nkp; cases nkp
      have hkp5 := k5.up hkp (fun z => nomatch z)
      have pd4 : PartD K (fun a => a ≠ kn) H4 n L (.ref x) ⟨(px, py), M, S, b, bas⟩ := ⟨x, t, kp, kvp, rfl, s4 _ _ e3, npk, hkp, hkv, pv⟩
      have pds5 : PDs K (fun a => a ≠ kn) H5 n L (us ++ [.ref x]) (ds ++ [⟨(px, py), M, S, b, bas⟩]) := PDs.keep hfl4 (.inl ⟨_, rfl⟩) k5.2 ((hds.same s04).snoc pd4)
      obtain ⟨dxp, bs, hx4, _⟩ := pv
      have hx5 := k5.up hx4 (fun z => nomatch z)
      have nkl : kp ≠ fl := fun z => by subst z; rw [s3 _ _ hfl] at nkp; cases nkp
      have hkn5 := k5.2 _ _ (Ne.symm ne1) (s4 _ _ hkn3)
      refine ⟨kp, .dT kvp, hkp5, ?_, fun od => ?_⟩
      · exact True.intro
      have k6 := chg_upd (o' := .frz od (.dT kvp)) hkp5
      refine ⟨_, rfl, x, _, dxp, _, _, rfl, k6.up hx5 (fun z => nomatch z), T.c_Part, T.n_Part_known, rfl, kp, od, rfl, .inr ⟨kvp, upd_same, ?_⟩⟩
      refine for_keysT (fun i σ H' => ∃ (kvs' : List (List Key × V)) (Ks' : List Pt) (o5 : Option V), σ = [some (.ref o), some (.ref fl), some (.ref kn), some (.ref t), some (.ref x), o5] ∧ H' kp = some (.frz od (.dT kvp)) ∧ (∀ a u, a ≠ kp → a ≠ kn → H5 a = some u → H' a = some u) ∧ H' kn = some (.dT kvs') ∧ KS n kvs' Ks' ∧ ∀ k, k ∈ Ks' ↔ k ∈ Ks ∨ k ∈ (M.take i).map (·.1))
        ⟨kvs, Ks, _, rfl, upd_same, fun a u z _ e => k6.2 a u z e, k6.2 _ _ (Ne.symm npk) hkn5, hks, fun k => by simp⟩ (fun i σ H' _ hI => ?_) (fun i k v bq σ H' hget hq hI => ?_) (fun σ H' hI => ?_)
      · obtain ⟨_, _, _, _, h, _⟩ := hI
        exact h
      · obtain ⟨kvs', Ks', o5, rfl, hfz, hfr, hkn', hks', hmem⟩ := hI
        obtain ⟨m, hm, rfl⟩ := kv_at hkv hget
        have hmc : m.1 ∈ cellL n := by rw [← df.low m (List.mem_of_getElem? hm)]; exact low_cell ok.net _
        have hl' := hks'.len
        tm_at "sx"
        refine ⟨_, rfl, _, rfl, kn, bq, kvs', kP m.1, rfl, rfl, hkn', hq, by omega, fun H7 k7 e7 => ?_⟩
        refine ⟨_, addK Ks' m.1, _, rfl, k7.2 _ _ npk hfz, fun a u z1 z2 e => k7.2 a u z2 (hfr a u z1 z2 e), e7, hks'.put hmc _, fun k => ?_⟩
        rw [List.take_add_one, hm]
        have e : k ∈ addK Ks' m.1 ↔ k ∈ Ks' ∨ k = m.1 := by
          unfold addK
          by_cases z : m.1 ∈ Ks'
          · rw [if_pos z]
            exact ⟨.inl, fun h => h.elim id fun y => y ▸ z⟩
          · rw [if_neg z, List.mem_append, List.mem_singleton]
        rw [e, hmem]
        simp [or_assoc]
      · obtain ⟨kvs', Ks', o5, rfl, hfz, hfr, hkn', hks', hmem⟩ := hI
        refine ⟨hfz, ?_⟩
        rw [hkv.len, List.take_length] at hmem
        have nkH : H kn = none := by
          cases z : H kn with
          | none => rfl
          | some u => rw [s1 _ _ z] at nk; cases nk
        have s05 : Same H H5 := chg_same nf (Same.trans sI s04) k5
        have keep : ∀ a u, a ≠ kn → H5 a = some u → upd H' kp (.dT kvp) a = some u := fun a u z e => by
          by_cases y : a = kp
          · subst y; rw [hkp5] at e; cases e; exact upd_same
          · rw [upd_ne y]; exact hfr a u y z e
        have hp0 : (px, py) ∈ M.map (·.1) := List.mem_map.mpr ⟨_, List.mem_of_getElem? df.head, rfl⟩
        have hko : ∀ k, k ∈ keysOf (ds ++ [⟨(px, py), M, S, b, bas⟩]) ↔ k ∈ keysOf ds ∨ k ∈ M.map (·.1) := fun k => by
          unfold keysOf; rw [List.flatMap_append, List.mem_append]; simp
        refine ⟨dn ++ [(px, py)], ds ++ [⟨(px, py), M, S, b, bas⟩], kvs', Ks', us ++ [.ref x], _, _, _, rfl, by rw [hcell]; simp, fun a u e => keep a u (fun z => by subst z; rw [nkH] at e; cases e) (s05 a u e), keep _ _ ne1 e5, PDs.keep hkn5 (.inr ⟨⟨_, rfl⟩, fun a h => h⟩) keep pds5, by rw [upd_ne (Ne.symm npk)]; exact hkn', hks', ⟨fun d hd => ?_, ?_⟩, fun k => ?_, fun p hp => ?_⟩
        · rcases List.mem_append.mp hd with z | z
          · exact hok.all d z
          · obtain rfl : d = ⟨(px, py), M, S, b, bas⟩ := by simpa using z
            exact ⟨hpc, df, bp⟩
        · refine List.pairwise_append.mpr ⟨hok.new, by simp, fun d hd e he z => ?_⟩
          obtain rfl : e = ⟨(px, py), M, S, b, bas⟩ := by simpa using he
          exact hin ((hk _).mpr (List.mem_flatMap.mpr ⟨d, hd, z⟩))
        · rw [hmem, hko, hk]
        · rcases List.mem_append.mp hp with z | z
          · exact (hmem p).mpr (.inl (hdn p z))
          · obtain rfl : p = (px, py) := by simpa using z
            exact (hmem _).mpr (.inr hp0)
end
end Cp
set_option Elab.async false
set_option linter.all false
set_option maxRecDepth 100000
set_option maxHeartbeats 2000000
/-! F20: part_at. -/
namespace Cp
open PySem PySem.Spec PyProof.Rows L2
local macro_rules | `(tactic| tm_at "fact") => `(tactic| first
  | assumption
  | (apply Same.up; · assumption
     tm_at "fact")
  | (apply Same.upS; · assumption
     tm_at "fact")
  | (apply Same.upL; · assumption
     tm_at "fact")
  | (apply sq_of; tm_at "fact")
  | (apply sl_of; tm_at "fact")
  | (apply Chg.up; · assumption
     · tm_at "fact"
     · exact fun z => nomatch z)
  | (apply Chg.upS; · assumption
     · tm_at "fact"
     · exact fun _ z => nomatch z
     · exact fun _ _ z => nomatch z))
local macro_rules | `(tactic| tm_at "same") => `(tactic| first
  | assumption
  | exact Same.refl _
  | (refine Same.trans ?_ ?_; rotate_left; · assumption
     tm_at "same"))
local macro_rules | `(tactic| tm_at "sx1") => `(tactic| with_reducible first
  | refine w_var rfl ?_
  | refine w_c ?_
  | refine w_op ?_
  | refine w_seq ?_
  | refine w_asg ?_
  | refine w_gname ?_
  | refine w_ret ?_
  | refine w_nil ?_
  | refine w_cons ?_
  | refine w_tup ?_
  | refine w_lst ?_
  | refine w_cb ?_
  | refine w_callR ?_
  | refine w_i0 ?_
  | refine w_gcons ?_
  | refine w_gnil ?_
  | refine w_test ?_
  | refine w_not ?_
  | refine w_ifs ?_
  | refine w_if ?_
  | refine w_expr ?_
  | refine w_eqI ?_
  | refine w_neI ?_
  | refine w_eqS ?_
  | refine w_neS ?_
  | refine w_or ?_
  | refine w_and ?_
  | refine w_par3 ?_
  | refine w_andV ?_
  | refine w_notV ?_
  | refine w_lcS ?_
  | refine w_forE ?_
  | refine w_m1 ?_
  | refine w_forL ?_
  | refine w_forR1 ?_
  | refine w_isN ?_
  | refine w_notN ?_
  | refine w_fld ?_
  | refine w_methR ?_
  | refine w_propR ?_
  | refine w_propA ?_
  | refine w_methA ?_
  | refine w_subA ?_
  | refine w_makeS ?_
  | refine w_fldS ?_
  | refine w_chain ?_
  | refine w_orV ?_
  | refine w_next ?_
  | refine w_tB ?_
  | refine w_lcL ?_
  | refine w_lcT ?_
  | refine w_lcR1 ?_
  | refine w_lcR2 ?_
  | refine w_turn ?_
  | refine w_yes ?_
  | refine w_par ?_
  | refine w_uI ?_
  | refine w_un ?_
  | refine w_one ?_)
local macro_rules | `(tactic| tm_at "at") => `(tactic| first | exact rfl | exact atI_nat rfl)
local macro_rules | `(tactic| tm_at "ix") => `(tactic| first
  | (with_reducible apply w_ixT; · tm_at "fact"
     · tm_at "at")
  | (with_reducible apply w_ixL; · tm_at "fact"
     · tm_at "at")
  | (with_reducible apply w_gtup; · tm_at "fact"
     · exact rfl))
local macro_rules | `(tactic| tm_at "sx") => `(tactic| repeat (first | tm_at "sx1" | tm_at "ix"))
section
variable {P : Program} {w : World} {K : PySem.W.Frag} {mg : Str → Option Value} {base : Heap}
theorem PDs.at {N : Addr → Prop} {H : Hp} {n : T3} {L : List Nat} {us : List V} {ds : List PD} (h : PDs K N H n L us ds) {i : Nat} {v : V} (e : us[i]? = some v) : ∃ d, ds[i]? = some d ∧ PartD K N H n L v d := by
  induction h generalizing i with
  | nil => cases e
  | @cons a b l1 l2 r _ ih =>
    cases i with
    | zero => cases e; exact ⟨b, rfl, r⟩
    | succ i => exact ih (i := i) e
/-- the part at a place -/
def sp_part_at (K : PySem.W.Frag) : Sp := fun vs H Q _ => ∃ (o a C : Addr) (n : T3) (L : List Nat) (p : Pt), vs = [.ref o, .ref a] ∧ CarC K C ∧ CarV K H o C n L ∧ H a = some (tup2 p) ∧
  ∀ v d H', Same H H' → PDok n L d → low n p ∈ d.M.map (·.1) → PartD K (fun _ => True) H' n L v d → Q v H'
theorem ok_part_at (T : Tx K mg) : FnR P w K mg base CX0 8 (He.ga K "part_at") (sp_part_at K) := by
  refine fnr_of T.f_part_at sc_part_at (fun _ _ _ _ _ _ us hl => match us, hl with | [_, _], _ => rfl) (fun vs H Q E h => by obtain ⟨_, _, _, _, _, _, rfl, _⟩ := h; rfl) (fun cdv A outer s H vs Q E hr h => ?_)
  have nd := sc_part_at.nd
  refine ⟨_, (pss_cons (ps_expr (pe_callR (ok_check_place T) (hr.mono (by decide)) rfl T.g_check_place T.k_check_place (pa_cons (pv 1) pa_nil)))
    (pss_cons (ps_set (i := 2) nd rfl (Or.inr rfl) (pe_methR (pe_propA (pv 0) T.pr_net (ok_Carpet_net T) (hr.mono (by decide))) T.c_Net T.m_Net_place_in_cell (ok_Net_place_in_cell T) (hr.mono (by decide)) pass0 (pa_cons (pv 1) pa_nil)))
    (pss_one (ps_ret (pe_ix ix_list (pe_lcL (own := [("part", 3)]) (g := (gName 3)) rfl nd (pe_callR (ok_parts T) (hr.mono (by decide)) rfl T.g_parts T.k_parts (pa_cons (pv 0) pa_nil)) (blkOk_by (N := Npart_at) (sc := defScope spart_at) (by decide +kernel)) (fun _ _ _ _ _ => (pg_name (i := 3) nd rfl (Or.inl rfl))) (fun _ _ _ _ _ => (pts_one (pt_cmp (pc_din (ty := tVar 2) (td := tFld K (tVar 3) "known") (hu_of hr) (pv 2) (pe_fld (pv 3) rfl))))) (fun _ _ _ _ _ => (pv 3))) pe_int (fun _ _ => rfl)))))), ?_⟩
  try dsimp only [cxOf]
  obtain ⟨o, a, C, n, L, p, rfl, hC, hc, ha, q⟩ := h
  obtain ⟨dx, nt, ho, hn, ok⟩ := id hc
  have hsl := sizeLine_eq
  tm_at "sx"
  refine ⟨a, p.1, p.2, rfl, ha, fun H1 s1 => ?_⟩
  tm_at "sx"
  refine ⟨o, C, dx, _, rfl, hC, s1 _ _ ho, o, C, n, L, rfl, hC, hc.up s1, fun nt' hn' => ?_⟩
  obtain ⟨dn, tn, hno, hnt⟩ := id hn'
  refine ⟨nt', dn, _, rfl, hno, rfl, ?_⟩
  tm_at "sx"
  refine ⟨nt', a, n, p, rfl, hn', ok.net.nw p, s1 _ _ ha, fun tl H2 s2 e2 => ?_⟩
  tm_at "sx"
  have s02 := Same.trans s1 s2
  refine ⟨o, C, n, L, rfl, hC, hc.up s02, fun l us ds H3 nl s3 e3 pds pok cov => ?_⟩
  have s03 := Same.trans s02 s3
  have hul : us.length = ds.length := Paired.length pds
  have hdl := pok.len
  have hcl : (cellL n).length ≤ 4000 := by have := ok.net.nat; have := ok.net.sz; rw [cellL_len]; omega
  refine ⟨l, us, rfl, sl_of e3, by omega, fun i acc H' => (∀ v ∈ acc, ∃ d ∈ ds, low n p ∈ d.M.map (·.1) ∧ PartD K (fun _ => True) H3 n L v d) ∧ ((∃ d ∈ ds.take i, low n p ∈ d.M.map (·.1)) → acc ≠ []), fun _ _ => ⟨fun v hv => (by cases hv), fun ⟨d, hd, _⟩ => (by simp at hd)⟩, fun D i v acc H' hi hx hD s4 e pp => ?_, fun D acc H' hD s4 e pp => ?_⟩
  · obtain ⟨p1, p2⟩ := pp
    obtain ⟨d, hdi, pd⟩ := pds.at hx
    obtain ⟨x, b, kp, kvp, rfl, g1, _, g2, g3, dxp, bs, g4, g5⟩ := id pd
    have hdm := List.mem_of_getElem? hdi
    tm_at "sx"
    refine ⟨rfl, ?_⟩
    tm_at "sx"
    refine ⟨_, rfl, ?_⟩
    refine ⟨_, rfl, x, _, dxp, _, _, rfl, s4 _ _ g4, T.c_Part, T.n_Part_known, rfl, kp, _, rfl, DGet.t (k := kP (low n p)) (s4 _ _ g2) (s4 _ _ (s3 _ _ e2)), ?_⟩
    refine ⟨_, rfl, ?_⟩
    cases ef : fnd d.M (low n p) with
    | none =>
      rw [g3.none ef]
      refine w_ff ⟨e, s4, p1, fun ⟨d', hd', hm⟩ => ?_⟩
      rw [List.take_add_one, hdi] at hd'
      rcases List.mem_append.mp hd' with z | z
      · exact p2 ⟨d', z, hm⟩
      · obtain rfl : d' = d := by simpa using z
        exact absurd hm (fnd_none ef)
    | some r =>
      obtain ⟨br, hbr, _⟩ := g3.some ef
      rw [hbr]
      refine w_tt ?_
      tm_at "sx"
      refine ⟨e, s4, fun H5 c s5 => ⟨fun v hv => ?_, fun _ => by simp⟩⟩
      rcases List.mem_append.mp hv with z | z
      · exact p1 v z
      · obtain rfl : v = .ref x := by simpa using z
        exact ⟨d, hdm, List.mem_map.mpr ⟨_, fnd_mem ef, rfl⟩, pd⟩
  · obtain ⟨p1, p2⟩ := pp
    obtain ⟨d, hd, hm⟩ := List.mem_flatMap.mp (cov _ (low_cell ok.net p))
    have hne := p2 ⟨d, by rw [hul, List.take_length]; exact hd, hm⟩
    cases acc with
    | nil => exact absurd rfl hne
    | cons v r =>
      obtain ⟨d, hd, hm, pd⟩ := p1 v (List.mem_cons_self ..)
      tm_at "sx"
      exact q v d H' (Same.trans s03 s4) (pok.all d hd) hm (pd.same s4)
end
end Cp
set_option Elab.async false
set_option linter.all false
set_option maxRecDepth 100000
set_option maxHeartbeats 2000000
/-! F21: repainted. -/
namespace Cp
open PySem PySem.Spec PyProof.Rows L2
open SG (ps_forG pe_lcG ps_setLcG tForG tLcG)
local macro_rules | `(tactic| tm_at "fact") => `(tactic| first
  | assumption
  | (apply Same.up; · assumption
     tm_at "fact")
  | (apply Same.upS; · assumption
     tm_at "fact")
  | (apply Same.upL; · assumption
     tm_at "fact")
  | (apply sq_of; tm_at "fact")
  | (apply sl_of; tm_at "fact")
  | (apply Chg.up; · assumption
     · tm_at "fact"
     · exact fun z => nomatch z)
  | (apply Chg.upS; · assumption
     · tm_at "fact"
     · exact fun _ z => nomatch z
     · exact fun _ _ z => nomatch z))
local macro_rules | `(tactic| tm_at "same") => `(tactic| first
  | assumption
  | exact Same.refl _
  | (refine Same.trans ?_ ?_; rotate_left; · assumption
     tm_at "same"))
local macro_rules | `(tactic| tm_at "sx1") => `(tactic| with_reducible first
  | refine w_var rfl ?_
  | refine w_c ?_
  | refine w_op ?_
  | refine w_seq ?_
  | refine w_asg ?_
  | refine w_gname ?_
  | refine w_ret ?_
  | refine w_nil ?_
  | refine w_cons ?_
  | refine w_tup ?_
  | refine w_lst ?_
  | refine w_cb ?_
  | refine w_callR ?_
  | refine w_i0 ?_
  | refine w_gcons ?_
  | refine w_gnil ?_
  | refine w_test ?_
  | refine w_not ?_
  | refine w_ifs ?_
  | refine w_if ?_
  | refine w_expr ?_
  | refine w_eqI ?_
  | refine w_neI ?_
  | refine w_eqS ?_
  | refine w_neS ?_
  | refine w_or ?_
  | refine w_and ?_
  | refine w_par3 ?_
  | refine w_andV ?_
  | refine w_notV ?_
  | refine w_lcS ?_
  | refine w_forE ?_
  | refine w_m1 ?_
  | refine w_forL ?_
  | refine w_forR1 ?_
  | refine w_isN ?_
  | refine w_notN ?_
  | refine w_fld ?_
  | refine w_methR ?_
  | refine w_propR ?_
  | refine w_propA ?_
  | refine w_methA ?_
  | refine w_subA ?_
  | refine w_makeS ?_
  | refine w_fldS ?_
  | refine w_chain ?_
  | refine w_orV ?_
  | refine w_next ?_
  | refine w_tB ?_
  | refine w_lcL ?_
  | refine w_lcT ?_
  | refine w_lcR1 ?_
  | refine w_lcR2 ?_
  | refine w_turn ?_
  | refine w_yes ?_
  | refine w_par ?_
  | refine w_uI ?_
  | refine w_un ?_
  | refine w_one ?_)
local macro_rules | `(tactic| tm_at "at") => `(tactic| first | exact rfl | exact atI_nat rfl)
local macro_rules | `(tactic| tm_at "ix") => `(tactic| first
  | (with_reducible apply w_ixT; · tm_at "fact"
     · tm_at "at")
  | (with_reducible apply w_ixL; · tm_at "fact"
     · tm_at "at")
  | (with_reducible apply w_gtup; · tm_at "fact"
     · exact rfl))
local macro_rules | `(tactic| tm_at "sx") => `(tactic| repeat (first | tm_at "sx1" | tm_at "ix"))
section
variable {P : Program} {w : World} {K : PySem.W.Frag} {mg : Str → Option Value} {base : Heap}
/-- the cell's text after a part is painted -/
def paintL (n : T3) (L : List Nat) (ks : List Pt) (c : Nat) : List Nat := (cellL n).map fun q => if q ∈ ks then c else colr n L q
def sp_repainted (K : PySem.W.Frag) : Sp := fun vs H Q _ => ∃ (o a C : Addr) (n : T3) (L : List Nat) (p : Pt) (c : Nat), vs = [.ref o, .ref a, .str (one1 c)] ∧ CarC K C ∧ CarV K H o C n L ∧ H a = some (tup2 p) ∧ c ∈ LET ∧
  ∀ x m d H', Same H H' → PDok n L d → low n p ∈ d.M.map (·.1) → CarV K H' x (He.ga K "Woven") m (reText n (paintL n L (d.M.map (·.1)) c) m) → KeptR n (paintL n L (d.M.map (·.1)) c) m → Q (.ref x) H'
theorem ok_repainted (T : Tx K mg) : FnR P w K mg base CX0 9 (He.ga K "repainted") (sp_repainted K) := by
  refine fnr_of T.f_repainted sc_repainted (fun _ _ _ _ _ _ us hl => match us, hl with | [_, _, _], _ => rfl) (fun vs H Q E h => by obtain ⟨_, _, _, _, _, _, _, rfl, _⟩ := h; rfl) (fun cdv A outer s H vs Q E hr h => ?_)
  have nd := sc_repainted.nd
  refine ⟨_, (pss_cons (ps_expr (pe_callR (ok_check_place T) (hr.mono (by decide)) rfl T.g_check_place T.k_check_place (pa_cons (pv 1) pa_nil)))
    (pss_cons (ps_expr (pe_callR (ok_check_colour T) (hr.mono (by decide)) rfl T.g_check_colour T.k_check_colour (pa_cons (pv 2) pa_nil)))
    (pss_cons (ps_set (i := 3) nd rfl (Or.inr rfl) (pe_fld (pe_callR (ok_part_at T) (hr.mono (by decide)) rfl T.g_part_at T.k_part_at (pa_cons (pv 0) (pa_cons (pv 1) pa_nil))) rfl))
    (pss_cons (ps_setLcG (i := 4) (own := [("spot", 5)]) (g := (gName 5)) rfl hr nd rfl rfl (sw_true rfl rfl rfl (by decide +kernel)) (pgi_net T hr (pe_propA (pv 0) T.pr_net (ok_Carpet_net T) (hr.mono (by decide)))) (blkOk_by (N := Nrepainted) (sc := defScope srepainted) (by decide +kernel)) (by decide +kernel) (fun _ _ _ _ _ => (pg_name (i := 5) nd rfl (Or.inl rfl))) (fun _ _ _ _ _ => (pe_ifExp (pt_cmp (pc_din (hu_of hr) (pv 5) (pv 3))) (pv 2) (pe_methA (pv 0) T.me_seen (ok_Carpet_seen T) (hr.mono (by decide)) (pa_cons (pv 5) pa_nil)))))
    (pss_one (ps_ret (pe_makeS T.mk_Woven (ok_Woven___init__ T) (hr.mono (by decide)) rfl T.g_Woven (pa_cons (pe_propA (pv 0) T.pr_net (ok_Carpet_net T) (hr.mono (by decide))) (pa_cons (pe_join pe_str (pv 4)) pa_nil))))))))), ?_⟩
  try dsimp only [cxOf]
  obtain ⟨o, a, C, n, L, p, c, rfl, hC, hc, ha, hcl, q⟩ := h
  obtain ⟨dx, nt, ho, hn, ok⟩ := id hc
  have hsl := sizeLine_eq
  tm_at "sx"
  refine ⟨a, p.1, p.2, rfl, ha, fun H1 s1 => ?_⟩
  tm_at "sx"
  refine ⟨c, rfl, hcl, ?_⟩
  tm_at "sx"
  refine ⟨o, a, C, n, L, p, rfl, hC, hc.up s1, s1 _ _ ha, fun v d H2 s2 pok hm pd => ?_⟩
  obtain ⟨x, b, kp, kvp, rfl, g1, _, g2, g3, dxp, bs, g4, g5⟩ := id pd
  tm_at "sx"
  refine ⟨x, _, dxp, _, _, rfl, g4, T.c_Part, T.n_Part_known, rfl, ?_⟩
  tm_at "sx"
  have s02 := Same.trans s1 s2
  refine ⟨_, rfl, o, C, dx, _, rfl, hC, s02 _ _ ho, o, C, n, L, rfl, hC, hc.up s02, fun nt' hn' => ?_⟩
  refine ⟨nt', n, rfl, hn', ok.net, fun D nD => ?_⟩
  refine ⟨fun its acc H' => ∃ dn, cellL n = dn ++ its ∧ Same H2 H' ∧ H' D = some (.lst acc) ∧ acc = dn.map (fun q => V.str (one1 (if q ∈ d.M.map (·.1) then c else colr n L q))), ⟨[], rfl, same_upd nD, upd_same, rfl⟩, fun r acc H' ⟨_, _, _, h, _⟩ => h, fun acc H' ⟨dn, hcell, s3, e3, ea⟩ => ?_, ?_⟩
  · obtain rfl : dn = cellL n := by rw [hcell]; simp
    have s03 := Same.trans s02 s3
    have htok : TOk n (paintL n L (d.M.map (·.1)) c) := ⟨ok.net, by unfold paintL; rw [List.length_map, cellL_len, ok.net.nat]⟩
    have hsmall := htok.small
    tm_at "sx"
    refine ⟨o, C, dx, _, rfl, hC, s03 _ _ ho, o, C, n, L, rfl, hC, hc.up s03, fun nt2 hn2 => ?_⟩
    tm_at "sx"
    refine ⟨⟨_, rfl⟩, ?_⟩
    tm_at "sx"
    refine ⟨_, D, (paintL n L (d.M.map (·.1)) c).map one1, rfl, rfl, .inl (join_sl (sl_of (by rw [e3, ea]; unfold paintL; rw [List.map_map]; rfl))), join_len _ (by omega), ?_⟩
    rw [join0]
    tm_at "sx"
    intro x2 dx2 H5 nx ndx hne s5 e5
    refine ⟨x2, _, dx2, nt2, n, _, rfl, .inr rfl, e5, hn2.up s5, htok, fun m H6 k6 cv hk => ⟨rfl, q x2 m d H6 (Same.trans s03 (made_same (H := H) nx s5 k6)) pok hm cv hk⟩⟩
  · rintro px py r acc H' ⟨dn, hcell, s3, e3, ea⟩ t nt
    have s4 : Same H' (upd H' t (.tup [.int px, .int py])) := same_upd nt
    have e4 : upd H' t (.tup [.int px, .int py]) t = some (tup2 (px, py)) := upd_same
    generalize upd H' t (.tup [.int px, .int py]) = H4 at *
    have s24 := Same.trans s3 s4
    have hal : acc.length < sizeLine := by
      have h1 := congrArg List.length hcell
      rw [List.length_append] at h1
      have h2 := ok.net.nat; have h3 := ok.net.sz
      rw [ea, List.length_map]
      rw [cellL_len] at h1
      omega
    have nxt : ∀ (z : Nat) (H6 : Hp), z = (if (px, py) ∈ d.M.map (·.1) then c else colr n L (px, py)) → Same H4 H6 → H6 D = some (.lst acc) ∧ acc.length < sizeLine ∧ ∃ dn, cellL n = dn ++ r ∧ Same H2 (upd H6 D (.lst (acc ++ [V.str (one1 z)]))) ∧ upd H6 D (.lst (acc ++ [V.str (one1 z)])) D = some (.lst (acc ++ [V.str (one1 z)])) ∧ acc ++ [V.str (one1 z)] = dn.map (fun q => V.str (one1 (if q ∈ d.M.map (·.1) then c else colr n L q))) := fun z H6 ez s6 => by
      have eD := s6 _ _ (s4 _ _ e3)
      refine ⟨eD, hal, dn ++ [(px, py)], by rw [hcell]; simp, chg_same nD (Same.trans s24 s6) (chg_upd eD), upd_same, ?_⟩
      rw [List.map_append, ea, ez]; rfl
    tm_at "sx"
    refine ⟨rfl, ?_⟩
    tm_at "sx"
    refine ⟨_, rfl, _, rfl, kp, _, rfl, DGet.t (k := kP (px, py)) (s24 _ _ g2) e4, ?_⟩
    refine ⟨_, rfl, ?_⟩
    cases ef : fnd d.M (px, py) with
    | none =>
      rw [g3.none ef]
      refine w_ff ?_
      tm_at "sx"
      refine ⟨o, C, dx, _, rfl, hC, s24 _ _ (s02 _ _ ho), rfl, ?_⟩
      tm_at "sx"
      refine ⟨o, t, C, n, L, (px, py), rfl, hC, (hc.up s02).up s24, e4, fun H6 s6 => nxt _ H6 (by rw [if_neg (fnd_none ef)]) s6⟩
    | some r' =>
      obtain ⟨br, hbr, _⟩ := g3.some ef
      rw [hbr]
      refine w_tt ?_
      tm_at "sx"
      exact nxt c H4 (by rw [if_pos (List.mem_map.mpr ⟨_, fnd_mem ef, rfl⟩)]) (Same.refl _)
end
end Cp
set_option Elab.async false
set_option linter.all false
set_option maxRecDepth 100000
set_option maxHeartbeats 2000000
/-! F22: are_joined. -/
namespace Cp
open PySem PySem.Spec PyProof.Rows L2
local macro_rules | `(tactic| tm_at "fact") => `(tactic| first
  | assumption
  | (apply Same.up; · assumption
     tm_at "fact")
  | (apply Same.upS; · assumption
     tm_at "fact")
  | (apply Same.upL; · assumption
     tm_at "fact")
  | (apply sq_of; tm_at "fact")
  | (apply sl_of; tm_at "fact")
  | (apply Chg.up; · assumption
     · tm_at "fact"
     · exact fun z => nomatch z)
  | (apply Chg.upS; · assumption
     · tm_at "fact"
     · exact fun _ z => nomatch z
     · exact fun _ _ z => nomatch z))
local macro_rules | `(tactic| tm_at "same") => `(tactic| first
  | assumption
  | exact Same.refl _
  | (refine Same.trans ?_ ?_; rotate_left; · assumption
     tm_at "same"))
local macro_rules | `(tactic| tm_at "sx1") => `(tactic| with_reducible first
  | refine w_var rfl ?_
  | refine w_c ?_
  | refine w_op ?_
  | refine w_seq ?_
  | refine w_asg ?_
  | refine w_gname ?_
  | refine w_ret ?_
  | refine w_nil ?_
  | refine w_cons ?_
  | refine w_tup ?_
  | refine w_lst ?_
  | refine w_cb ?_
  | refine w_callR ?_
  | refine w_i0 ?_
  | refine w_gcons ?_
  | refine w_gnil ?_
  | refine w_test ?_
  | refine w_not ?_
  | refine w_ifs ?_
  | refine w_if ?_
  | refine w_expr ?_
  | refine w_eqI ?_
  | refine w_neI ?_
  | refine w_eqS ?_
  | refine w_neS ?_
  | refine w_or ?_
  | refine w_and ?_
  | refine w_par3 ?_
  | refine w_andV ?_
  | refine w_notV ?_
  | refine w_lcS ?_
  | refine w_forE ?_
  | refine w_m1 ?_
  | refine w_forL ?_
  | refine w_forR1 ?_
  | refine w_isN ?_
  | refine w_notN ?_
  | refine w_fld ?_
  | refine w_methR ?_
  | refine w_propR ?_
  | refine w_propA ?_
  | refine w_methA ?_
  | refine w_subA ?_
  | refine w_makeS ?_
  | refine w_fldS ?_
  | refine w_chain ?_
  | refine w_orV ?_
  | refine w_next ?_
  | refine w_tB ?_
  | refine w_lcL ?_
  | refine w_lcT ?_
  | refine w_lcR1 ?_
  | refine w_lcR2 ?_
  | refine w_turn ?_
  | refine w_yes ?_
  | refine w_par ?_
  | refine w_uI ?_
  | refine w_un ?_
  | refine w_one ?_)
local macro_rules | `(tactic| tm_at "at") => `(tactic| first | exact rfl | exact atI_nat rfl)
local macro_rules | `(tactic| tm_at "ix") => `(tactic| first
  | (with_reducible apply w_ixT; · tm_at "fact"
     · tm_at "at")
  | (with_reducible apply w_ixL; · tm_at "fact"
     · tm_at "at")
  | (with_reducible apply w_gtup; · tm_at "fact"
     · exact rfl))
local macro_rules | `(tactic| tm_at "sx") => `(tactic| repeat (first | tm_at "sx1" | tm_at "ix"))
section
variable {P : Program} {w : World} {K : PySem.W.Frag} {mg : Str → Option Value} {base : Heap}
/-- what the answer is, told by the part at the first place -/
def JoinOk (n : T3) (p q : Pt) (d : PD) (ans : Bool) : Prop := (ans = false ∧ low n q ∉ d.M.map (·.1)) ∨
  (ans = true ∧ ∃ r1 r2, fnd d.M (low n p) = some r1 ∧ fnd d.M (low n q) = some r2 ∧ (psub (psub q r2) (psub p r1) = (0, 0) ∨ psub (psub q r2) (psub p r1) ∈ d.S))
def sp_are_joined (K : PySem.W.Frag) : Sp := fun vs H Q _ => ∃ (o a b C : Addr) (n : T3) (L : List Nat) (p q' : Pt) (ans : Bool), vs = [.ref o, .ref a, .ref b] ∧ CarC K C ∧ CarV K H o C n L ∧ H a = some (tup2 p) ∧ H b = some (tup2 q') ∧
  (∀ d, PDok n L d → low n p ∈ d.M.map (·.1) → JoinOk n p q' d ans) ∧ ∀ H', Same H H' → Q (.bl ans) H'
theorem ok_are_joined (T : Tx K mg) : FnR P w K mg base CX0 9 (He.ga K "are_joined") (sp_are_joined K) := by
  refine fnr_of T.f_are_joined sc_are_joined (fun _ _ _ _ _ _ us hl => match us, hl with | [_, _, _], _ => rfl) (fun vs H Q E h => by obtain ⟨_, _, _, _, _, _, _, _, _, rfl, _⟩ := h; rfl) (fun cdv A outer s H vs Q E hr h => ?_)
  have nd := sc_are_joined.nd
  refine ⟨_, (pss_cons (ps_expr (pe_callR (ok_check_place T) (hr.mono (by decide)) rfl T.g_check_place T.k_check_place (pa_cons (pv 1) pa_nil)))
    (pss_cons (ps_expr (pe_callR (ok_check_place T) (hr.mono (by decide)) rfl T.g_check_place T.k_check_place (pa_cons (pv 2) pa_nil)))
    (pss_cons (ps_par (i := 3) (j := 4) rfl nd rfl rfl (by decide) rfl rfl (pa_cons (pe_callR (ok_part_at T) (hr.mono (by decide)) rfl T.g_part_at T.k_part_at (pa_cons (pv 0) (pa_cons (pv 1) pa_nil))) (pa_cons (pe_methR (pe_propA (pv 0) T.pr_net (ok_Carpet_net T) (hr.mono (by decide))) T.c_Net T.m_Net_place_in_cell (ok_Net_place_in_cell T) (hr.mono (by decide)) pass0 (pa_cons (pv 2) pa_nil)) pa_nil)) rfl)
    (pss_cons (ps_if (pt_cmp (pc_dnotin (hu_of hr) (pv 4) (pe_fld (pv 3) rfl))) (pss_one (ps_ret pe_bl)) pss_nil)
    (pss_cons (ps_set (i := 5) nd rfl (Or.inl rfl) (pe_callR (ok_minus T) (hr.mono (by decide)) rfl T.g_minus T.k_minus (pa_cons (pv 1) (pa_cons (pe_dget (hu_of hr) (pe_fld (pv 3) rfl) (pe_methR (pe_propA (pv 0) T.pr_net (ok_Carpet_net T) (hr.mono (by decide))) T.c_Net T.m_Net_place_in_cell (ok_Net_place_in_cell T) (hr.mono (by decide)) pass0 (pa_cons (pv 1) pa_nil)) (fun _ _ => rfl)) pa_nil))))
    (pss_one (ps_ret (pe_methR (pv 3) T.c_Part T.m_Part_carries (ok_Part_carries T) (hr.mono (by decide)) pass0 (pa_cons (pe_callR (ok_minus T) (hr.mono (by decide)) rfl T.g_minus T.k_minus (pa_cons (pe_callR (ok_minus T) (hr.mono (by decide)) rfl T.g_minus T.k_minus (pa_cons (pv 2) (pa_cons (pe_dget (hu_of hr) (pe_fld (pv 3) rfl) (pv 4) (fun _ _ => rfl)) pa_nil))) (pa_cons (pv 5) pa_nil))) pa_nil))))))))), ?_⟩
  try dsimp only [cxOf]
  obtain ⟨o, a, b, C, n, L, p, q', ans, rfl, hC, hc, ha, hb, hj, q⟩ := h
  obtain ⟨dx, nt, ho, hn, ok⟩ := id hc
  tm_at "sx"
  refine ⟨a, p.1, p.2, rfl, ha, fun H1 s1 => ?_⟩
  tm_at "sx"
  refine ⟨b, q'.1, q'.2, rfl, s1 _ _ hb, fun H2 s2 => ?_⟩
  tm_at "sx"
  have s02 := Same.trans s1 s2
  refine ⟨o, a, C, n, L, p, rfl, hC, hc.up s02, s02 _ _ ha, fun v d H3 s3 pok hm pd => ?_⟩
  tm_at "sx"
  have s03 := Same.trans s02 s3
  refine ⟨o, C, dx, _, rfl, hC, s03 _ _ ho, o, C, n, L, rfl, hC, hc.up s03, fun nt' hn' => ?_⟩
  obtain ⟨dn, tn, hno, hnt⟩ := id hn'
  refine ⟨nt', dn, _, rfl, hno, rfl, ?_⟩
  tm_at "sx"
  refine ⟨nt', b, n, q', rfl, hn', ok.net.nw q', s03 _ _ hb, fun tl H4 s4 e4 => ?_⟩
  tm_at "sx"
  obtain ⟨x, st, kp, kvp, rfl, g1, _, g2, g3, dxp, bs, g4, g5⟩ := id (pd.same s4)
  refine ⟨_, _, rfl, ?_⟩
  tm_at "sx"
  refine ⟨_, rfl, _, rfl, x, _, dxp, _, _, rfl, g4, T.c_Part, T.n_Part_known, rfl, kp, _, rfl, DGet.t (k := kP (low n q')) g2 e4, ?_⟩
  refine ⟨_, rfl, ?_⟩
  rcases hj d pok hm with ⟨rfl, hq⟩ | ⟨rfl, r1, r2, f1, f2, hsh⟩
  · have ef : fnd d.M (low n q') = none := by
      cases e : fnd d.M (low n q') with
      | none => rfl
      | some r => exact absurd (List.mem_map.mpr ⟨_, fnd_mem e, rfl⟩) hq
    rw [g3.none ef]
    refine w_tt ?_
    tm_at "sx"
    exact q _ (Same.trans s03 s4)
  · obtain ⟨b2, hb2, e2⟩ := g3.some f2
    rw [hb2]
    refine w_ff ?_
    tm_at "sx"
    have s04 := Same.trans s03 s4
    obtain ⟨b1, hb1, e1⟩ := g3.some f1
    refine ⟨_, rfl, x, _, dxp, _, _, rfl, g4, T.c_Part, T.n_Part_known, rfl, ?_⟩
    refine ⟨_, rfl, o, C, dx, _, rfl, hC, s04 _ _ ho, o, C, n, L, rfl, hC, hc.up s04, fun nt3 hn3 => ?_⟩
    obtain ⟨dn3, tn3, hno3, hnt3⟩ := id hn3
    refine ⟨nt3, dn3, _, rfl, hno3, rfl, ?_⟩
    tm_at "sx"
    refine ⟨nt3, a, n, p, rfl, hn3, ok.net.nw p, s04 _ _ ha, fun tp H5 s5 e5 => ?_⟩
    refine ⟨kp, .ref b1, rfl, by rw [← hb1]; exact DGet.t (k := kP (low n p)) (s5 _ _ g2) e5, ?_⟩
    tm_at "sx"
    refine ⟨a, b1, p.1, p.2, r1.1, r1.2, rfl, sq_of (s5 _ _ (s04 _ _ ha)), sq_of (s5 _ _ e1), fun one H6 s6 e6 => ?_⟩
    tm_at "sx"
    have s46 : Same H4 H6 := Same.trans s5 s6
    refine ⟨x, dxp, _, rfl, s46 _ _ g4, rfl, ?_⟩
    tm_at "sx"
    refine ⟨_, rfl, x, _, dxp, _, _, rfl, s46 _ _ g4, T.c_Part, T.n_Part_known, rfl, _, rfl, kp, .ref b2, rfl, by rw [← hb2]; exact DGet.t (k := kP (low n q')) (s46 _ _ g2) (s46 _ _ e4), ?_⟩
    tm_at "sx"
    refine ⟨b, b2, q'.1, q'.2, r2.1, r2.2, rfl, sq_of (s46 _ _ (s04 _ _ hb)), sq_of (s46 _ _ e2), fun two H7 s7 e7 => ?_⟩
    tm_at "sx"
    refine ⟨two, one, q'.1 - r2.1, q'.2 - r2.2, p.1 - r1.1, p.2 - r1.2, rfl, sq_of e7, sq_of (s7 _ _ e6), fun sh H8 s8 e8 => ?_⟩
    have s48 : Same H4 H8 := Same.trans s46 (Same.trans s7 s8)
    have hpv : PartV K H8 x (colr n L d.p0) st kp d.M.length d.bas d.b := PartV.up s48 ⟨dxp, bs, g4, g5⟩
    have hlen : d.M.length ≤ 4000 := by
      have h1 := nodup_sub_len (d.M.map (·.1)) (cellL n) pok.df.nod fun y hy => by
        obtain ⟨e, he, rfl⟩ := List.mem_map.mp hy
        rw [← pok.df.low e he]; exact low_cell ok.net _
      have h2 := ok.net.nat; have h3 := ok.net.sz
      rw [List.length_map, cellL_len] at h1
      omega
    refine ⟨x, sh, colr n L d.p0, st, kp, _, d.bas, _, d.S, 2 * d.M.length, psub (psub q' r2) (psub p r1), rfl, hpv, e8, pok.bas, by omega, hsh, ?_, fun H9 s9 => q H9 (Same.trans s04 (Same.trans s48 s9))⟩
    rcases hsh with z | z
    · rw [z]; constructor <;> simp
    · exact pok.df.shb _ z
end
end Cp
set_option linter.all false
/-! M1: nets of shifts, colours that a net keeps, the least net. -/
namespace Cp
abbrev InL (n : T3) (p : Pt) : Prop := Lat n.1 n.2.1 n.2.2 p
theorem InL.zero (n : T3) : InL n (0, 0) := ⟨0, 0, by simp⟩
theorem InL.add {n : T3} {p q : Pt} (h : InL n p) (g : InL n q) : InL n (padd p q) := by
  obtain ⟨u, v, rfl⟩ := h
  obtain ⟨x, y, rfl⟩ := g
  refine ⟨u + x, v + y, Prod.ext ?_ ?_⟩
  · show (u * n.1 + v * n.2.1) + (x * n.1 + y * n.2.1) = (u + x) * n.1 + (v + y) * n.2.1; grind
  · show v * n.2.2 + y * n.2.2 = (v + y) * n.2.2; grind
theorem InL.neg {n : T3} {p : Pt} (h : InL n p) : InL n (-p.1, -p.2) := by
  obtain ⟨u, v, rfl⟩ := h
  refine ⟨-u, -v, Prod.ext ?_ ?_⟩
  · show -(u * n.1 + v * n.2.1) = -u * n.1 + -v * n.2.1; grind
  · show -(v * n.2.2) = -v * n.2.2; grind
theorem InL.sub {n : T3} {p q : Pt} (h : InL n p) (g : InL n q) : InL n (psub p q) := h.add g.neg
theorem low_diff {n : T3} (h : NV n) (p : Pt) : InL n (psub p (low n p)) := by
  refine ⟨(p.1 - p.2 / n.2.2 * n.2.1) / n.1, p.2 / n.2.2, Prod.ext ?_ ?_⟩
  · show p.1 - (p.1 - p.2 / n.2.2 * n.2.1) % n.1 = (p.1 - p.2 / n.2.2 * n.2.1) / n.1 * n.1 + p.2 / n.2.2 * n.2.1
    have e := Int.emod_add_mul_ediv (p.1 - p.2 / n.2.2 * n.2.1) n.1
    rw [Int.mul_comm n.1] at e
    omega
  · show p.2 - (p.2 - p.2 / n.2.2 * n.2.2) = p.2 / n.2.2 * n.2.2; omega
theorem low_add {n : T3} (h : NV n) (p : Pt) {t : Pt} (l : InL n t) : low n (padd p t) = low n p := by
  obtain ⟨u, v, rfl⟩ := l
  have h1 := h.c1
  have e : (p.2 + v * n.2.2) / n.2.2 = p.2 / n.2.2 + v := Int.add_mul_ediv_right _ _ (by omega)
  unfold low padd
  refine Prod.ext ?_ ?_
  · show (p.1 + (u * n.1 + v * n.2.1) - (p.2 + v * n.2.2) / n.2.2 * n.2.1) % n.1 = (p.1 - p.2 / n.2.2 * n.2.1) % n.1
    rw [e, show p.1 + (u * n.1 + v * n.2.1) - (p.2 / n.2.2 + v) * n.2.1 = p.1 - p.2 / n.2.2 * n.2.1 + u * n.1 by grind]
    exact Int.add_mul_emod_self_right _ _ _
  · show p.2 + v * n.2.2 - (p.2 + v * n.2.2) / n.2.2 * n.2.2 = p.2 - p.2 / n.2.2 * n.2.2
    rw [e]; grind
theorem padd_psub (p q : Pt) : padd q (psub p q) = p := Prod.ext (by show q.1 + (p.1 - q.1) = p.1; omega) (by show q.2 + (p.2 - q.2) = p.2; omega)
theorem low_iff {n : T3} (h : NV n) {p q : Pt} : low n p = low n q ↔ InL n (psub p q) := by
  constructor
  · intro e
    have h1 := (low_diff h p).sub (low_diff h q)
    rw [e] at h1
    have e2 : psub (psub p (low n q)) (psub q (low n q)) = psub p q := by
      unfold psub
      refine Prod.ext ?_ ?_
      · dsimp only; omega
      · dsimp only; omega
    rwa [e2] at h1
  · intro l
    have := low_add h q l
    rwa [padd_psub] at this
theorem colr_low {n : T3} {L : List Nat} {p q : Pt} (h : low n p = low n q) : colr n L p = colr n L q := by unfold colr ixOf; rw [h]
theorem colr_add {n : T3} {L : List Nat} (h : NV n) (p : Pt) {t : Pt} (l : InL n t) : colr n L (padd p t) = colr n L p := colr_low (low_add h p l)
/-- the shift t keeps all colours -/
def Keeps (f : Pt → Nat) (t : Pt) : Prop := ∀ p, f (padd p t) = f p
theorem padd_zero (p : Pt) : padd p (0, 0) = p := Prod.ext (Int.add_zero _) (Int.add_zero _)
theorem padd_assoc (p q r : Pt) : padd (padd p q) r = padd p (padd q r) := Prod.ext (Int.add_assoc ..) (Int.add_assoc ..)
theorem padd_neg (p t : Pt) : padd (padd p t) (-t.1, -t.2) = p := Prod.ext (by show p.1 + t.1 + -t.1 = p.1; omega) (by show p.2 + t.2 + -t.2 = p.2; omega)
theorem padd_neg' (p t : Pt) : padd (padd p (-t.1, -t.2)) t = p := Prod.ext (by show p.1 + -t.1 + t.1 = p.1; omega) (by show p.2 + -t.2 + t.2 = p.2; omega)
theorem Keeps.zero (f : Pt → Nat) : Keeps f (0, 0) := fun p => by rw [padd_zero]
theorem Keeps.add {f : Pt → Nat} {s t : Pt} (h : Keeps f s) (g : Keeps f t) : Keeps f (padd s t) := fun p => by rw [← padd_assoc, g, h]
theorem Keeps.neg {f : Pt → Nat} {t : Pt} (h : Keeps f t) : Keeps f (-t.1, -t.2) := fun p => by
  have := h (padd p (-t.1, -t.2))
  rw [padd_neg'] at this
  exact this.symm
theorem Keeps.nat {f : Pt → Nat} {t : Pt} (h : Keeps f t) : ∀ k : Nat, Keeps f ((k : Int) * t.1, (k : Int) * t.2)
  | 0 => by
    have e : (((0 : Nat) : Int) * t.1, ((0 : Nat) : Int) * t.2) = ((0, 0) : Pt) := by simp
    rw [e]; exact Keeps.zero f
  | k + 1 => by
    have e : (((k + 1 : Nat) : Int) * t.1, ((k + 1 : Nat) : Int) * t.2) = padd ((k : Int) * t.1, (k : Int) * t.2) t := by
      refine Prod.ext ?_ ?_
      · show ((k + 1 : Nat) : Int) * t.1 = (k : Int) * t.1 + t.1
        rw [Int.natCast_add]; show ((k : Int) + 1) * t.1 = _; rw [Int.add_mul, Int.one_mul]
      · show ((k + 1 : Nat) : Int) * t.2 = (k : Int) * t.2 + t.2
        rw [Int.natCast_add]; show ((k : Int) + 1) * t.2 = _; rw [Int.add_mul, Int.one_mul]
    rw [e]; exact (Keeps.nat h k).add h
theorem Keeps.mul {f : Pt → Nat} {t : Pt} (h : Keeps f t) (k : Int) : Keeps f (k * t.1, k * t.2) := by
  rcases Int.le_total 0 k with hk | hk
  · have := h.nat k.toNat
    rwa [show ((k.toNat : Nat) : Int) = k by omega] at this
  · have := (h.nat (-k).toNat).neg
    rw [show (((-k).toNat : Nat) : Int) = -k by omega] at this
    have e : ((-(-k * t.1), -(-k * t.2)) : Pt) = (k * t.1, k * t.2) := Prod.ext (by show -(-k * t.1) = _; grind) (by show -(-k * t.2) = _; grind)
    rwa [e] at this
theorem Keeps.lat {f : Pt → Nat} {n : T3} (h1 : Keeps f (n.1, 0)) (h2 : Keeps f (n.2.1, n.2.2)) {t : Pt} (l : InL n t) : Keeps f t := by
  obtain ⟨u, v, rfl⟩ := l
  have := (h1.mul u).add (h2.mul v)
  have e : padd (u * n.1, u * 0) (v * n.2.1, v * n.2.2) = (u * n.1 + v * n.2.1, v * n.2.2) := Prod.ext rfl (by show u * 0 + v * n.2.2 = _; omega)
  rwa [e] at this
theorem colr_keeps {n : T3} {L : List Nat} (h : NV n) {t : Pt} (l : InL n t) : Keeps (colr n L) t := fun p => colr_add h p l
theorem keptB_iff {n : T3} {L : List Nat} (ok : NOk n) {s : Pt} : keptB n L s = true ↔ Keeps (colr n L) s := by
  unfold keptB
  rw [List.all_eq_true]
  constructor
  · intro h p
    have h1 := h _ (low_cell ok p)
    rw [beq_iff_eq] at h1
    have hd := low_diff ok.nv p
    have e1 : colr n L (low n p) = colr n L p := colr_low (low_low ok p)
    have e2 : colr n L (padd (low n p) s) = colr n L (padd p s) := by
      refine colr_low ((low_iff ok.nv).mpr ?_)
      have e : psub (padd (low n p) s) (padd p s) = psub (low n p) p := Prod.ext (by show (low n p).1 + s.1 - (p.1 + s.1) = (low n p).1 - p.1; omega) (by show (low n p).2 + s.2 - (p.2 + s.2) = (low n p).2 - p.2; omega)
      rw [e]
      have := hd.neg
      have e3 : (-(psub p (low n p)).1, -(psub p (low n p)).2) = psub (low n p) p := Prod.ext (by show -(p.1 - (low n p).1) = (low n p).1 - p.1; omega) (by show -(p.2 - (low n p).2) = (low n p).2 - p.2; omega)
      rwa [e3] at this
    rw [← e2, ← h1, e1]
  · intro h p _
    rw [beq_iff_eq]; exact (h p).symm
theorem mem_divs {n : Nat} {d : Int} : d ∈ divs n ↔ 1 ≤ d ∧ d ≤ n ∧ d ∣ (n : Int) := by
  unfold divs
  rw [List.mem_map]
  constructor
  · rintro ⟨k, hk, rfl⟩
    obtain ⟨h1, h2⟩ := List.mem_filter.mp hk
    have h3 := List.mem_range'_1.mp h1
    rw [beq_iff_eq] at h2
    exact ⟨by omega, by omega, Int.natCast_dvd_natCast.mpr (Nat.dvd_of_mod_eq_zero h2)⟩
  · rintro ⟨h1, h2, h3⟩
    refine ⟨d.toNat, List.mem_filter.mpr ⟨List.mem_range'_1.mpr ⟨by omega, by omega⟩, ?_⟩, by omega⟩
    rw [beq_iff_eq]
    refine Nat.mod_eq_zero_of_dvd ?_
    have e : d = ((d.toNat : Nat) : Int) := by omega
    rw [e] at h3
    exact Int.natCast_dvd_natCast.mp h3
theorem divs_sorted (n : Nat) : (divs n).Pairwise (· < ·) := by
  unfold divs
  rw [List.pairwise_map]
  refine List.Pairwise.imp ?_ (List.Pairwise.filter _ (List.pairwise_lt_range' (s := 1) (n := n)))
  intro a b h
  exact Int.ofNat_lt.mpr h
/-- the first of a rising list -/
theorem first_le {l : List Int} (s : l.Pairwise (· < ·)) {w x : Int} (h : l[0]? = some w) (hx : x ∈ l) : w ≤ x := by
  cases l with
  | nil => cases hx
  | cons a r =>
    obtain rfl : a = w := Option.some.inj h
    rcases List.mem_cons.mp hx with rfl | hx
    · exact Int.le_refl _
    · exact Int.le_of_lt ((List.pairwise_cons.mp s).1 x hx)
theorem keeps_mod {f : Pt → Nat} {x y W z : Int} (h : Keeps f (x, y)) (g : Keeps f (W, z)) (k : Int) : Keeps f (x - k * W, y - k * z) := by
  have := h.add (g.mul (-k))
  have e : padd (x, y) (-k * W, -k * z) = (x - k * W, y - k * z) := Prod.ext (by show x + -k * W = _; rw [Int.neg_mul]; omega) (by show y + -k * z = _; rw [Int.neg_mul]; omega)
  rwa [e] at this
theorem keeps_emod {f : Pt → Nat} {x W : Int} (h : Keeps f (x, 0)) (g : Keeps f (W, 0)) : Keeps f (x % W, 0) := by
  have := keeps_mod h g (x / W)
  rwa [Int.mul_zero, Int.sub_zero, Int.mul_comm, ← Int.emod_def] at this
theorem width_facts {n : T3} {L : List Nat} (ok : NOk n) {W : Int} (h : (widthL n L)[0]? = some W) : 1 ≤ W ∧ W ∣ n.1 ∧ Keeps (colr n L) (W, 0) ∧ ∀ x, Keeps (colr n L) (x, 0) → W ∣ x := by
  have hW : W ∈ widthL n L := List.mem_of_getElem? h
  obtain ⟨h1, h2⟩ := List.mem_filter.mp hW
  obtain ⟨d1, d2, d3⟩ := mem_divs.mp h1
  have a1 := ok.a1
  have ea : ((n.1.toNat : Nat) : Int) = n.1 := by omega
  rw [ea] at d3
  have kW := (keptB_iff ok).mp h2
  have kA : Keeps (colr n L) (n.1, 0) := (keptB_iff ok).mp (kept_wide L)
  have no : ∀ r : Nat, ∀ x : Int, x.toNat = r → 1 ≤ x → x < W → ¬ Keeps (colr n L) (x, 0) := by
    intro r
    induction r using Nat.strongRecOn with
    | ind r ih =>
      intro x hr hx1 hx2 hk
      have km := keeps_emod kA hk
      have m1 := Int.emod_nonneg n.1 (b := x) (by omega)
      have m2 := Int.emod_lt_of_pos n.1 (b := x) (by omega)
      by_cases z : n.1 % x = 0
      · have hd : x ∣ n.1 := Int.dvd_of_emod_eq_zero z
        have hm : x ∈ widthL n L := List.mem_filter.mpr ⟨mem_divs.mpr ⟨hx1, by rw [ea]; exact Int.le_of_dvd (by omega) hd, by rw [ea]; exact hd⟩, (keptB_iff ok).mpr hk⟩
        have := first_le ((divs_sorted _).filter _) h hm
        omega
      · exact ih (n.1 % x).toNat (by omega) (n.1 % x) rfl (by omega) (by omega) km
  refine ⟨d1, d3, kW, fun x hx => ?_⟩
  have km := keeps_emod hx kW
  have m1 := Int.emod_nonneg x (b := W) (by omega)
  have m2 := Int.emod_lt_of_pos x (b := W) (by omega)
  by_cases z : x % W = 0
  · exact Int.dvd_of_emod_eq_zero z
  · exact absurd km (no _ (x % W) rfl (by omega) (by omega))
theorem row_none {n : T3} {L : List Nat} (ok : NOk n) {W rows : Int} (kW : Keeps (colr n L) (W, 0)) (W1 : 1 ≤ W) (h : rowOf n L W rows = none) (x : Int) : ¬ Keeps (colr n L) (x, rows) := by
  intro hk
  unfold rowOf at h
  rw [List.findSome?_eq_none_iff] at h
  have hm : Keeps (colr n L) (x % W, rows) := by
    have := keeps_mod hk kW (x / W)
    rwa [Int.mul_zero, Int.sub_zero, Int.mul_comm, ← Int.emod_def] at this
  have m1 := Int.emod_nonneg x (b := W) (by omega)
  have m2 := Int.emod_lt_of_pos x (b := W) (by omega)
  have := h (x % W).toNat (by rw [List.mem_range]; omega)
  rw [show (((x % W).toNat : Nat) : Int) = x % W by omega, (keptB_iff ok).mpr hm] at this
  simp at this
theorem row_some {n : T3} {L : List Nat} {W rows : Int} {m : T3} (h : rowOf n L W rows = some m) : ∃ r : Int, 0 ≤ r ∧ r < W ∧ m = (W, r, rows) ∧ keptB n L (r, rows) = true := by
  unfold rowOf at h
  obtain ⟨k, hk, e⟩ := List.exists_of_findSome?_eq_some h
  rw [List.mem_range] at hk
  by_cases z : keptB n L ((k : Int), rows) = true
  · rw [if_pos z] at e
    exact ⟨k, by omega, by omega, (Option.some.inj e).symm, z⟩
  · rw [if_neg z] at e; cases e
theorem kept_iff {n m : T3} {L : List Nat} (ok : NOk n) (h : KeptR n L m) : NV m ∧ ∀ t, InL m t ↔ Keeps (colr n L) t := by
  obtain ⟨W, hW, hs⟩ := h
  obtain ⟨W1, Wd, kW, Wx⟩ := width_facts ok hW
  have c1 := ok.c1
  have ec : ((n.2.2.toNat : Nat) : Int) = n.2.2 := by omega
  have kB : Keeps (colr n L) (n.2.1, n.2.2) := colr_keeps ok.nv ⟨0, 1, by simp⟩
  rcases hs with hs | ⟨hs, _⟩
  · unfold searchOf at hs
    obtain ⟨l1, rows, l2, hl, hr, hn⟩ := List.findSome?_eq_some_iff.mp hs
    obtain ⟨r, r0, rW, rfl, hk⟩ := row_some hr
    have hmem : rows ∈ divs n.2.2.toNat := by rw [hl]; simp
    obtain ⟨q1, q2, q3⟩ := mem_divs.mp hmem
    rw [ec] at q3
    have kR := (keptB_iff ok).mp hk
    have srt := divs_sorted n.2.2.toNat
    have no : ∀ k : Nat, ∀ y : Int, y.toNat = k → 1 ≤ y → y < rows → ∀ x, ¬ Keeps (colr n L) (x, y) := by
      intro k
      induction k using Nat.strongRecOn with
      | ind k ih =>
        intro y hy hy1 hy2 x hxy
        have km := keeps_mod kB hxy (n.2.2 / y)
        rw [Int.mul_comm _ y, ← Int.emod_def] at km
        have m1 := Int.emod_nonneg n.2.2 (b := y) (by omega)
        have m2 := Int.emod_lt_of_pos n.2.2 (b := y) (by omega)
        by_cases z : n.2.2 % y = 0
        · have hd : y ∣ n.2.2 := Int.dvd_of_emod_eq_zero z
          have hm : y ∈ divs n.2.2.toNat := mem_divs.mpr ⟨hy1, by rw [ec]; exact Int.le_of_dvd (by omega) hd, by rw [ec]; exact hd⟩
          rw [hl] at hm srt
          rcases List.mem_append.mp hm with hm | hm
          · exact row_none ok kW W1 (hn y hm) x hxy
          · rcases List.mem_cons.mp hm with e | hm
            · omega
            · have := (List.pairwise_cons.mp (List.pairwise_append.mp srt).2.1).1 y hm
              omega
        · exact ih (n.2.2 % y).toNat (by omega) (n.2.2 % y) rfl (by omega) (by omega) _ km
    refine ⟨⟨W1, r0, rW, q1⟩, fun t => ⟨fun l => Keeps.lat kW kR l, fun ht => ?_⟩⟩
    have km := keeps_mod (x := t.1) (y := t.2) ht kR (t.2 / rows)
    have e : t.2 - t.2 / rows * rows = t.2 % rows := by rw [Int.mul_comm, ← Int.emod_def]
    rw [e] at km
    have m1 := Int.emod_nonneg t.2 (b := rows) (by omega)
    have m2 := Int.emod_lt_of_pos t.2 (b := rows) (by omega)
    by_cases z : t.2 % rows = 0
    · rw [z] at km
      obtain ⟨u, hu⟩ := Wx _ km
      refine ⟨u, t.2 / rows, Prod.ext ?_ ?_⟩
      · show t.1 = u * W + t.2 / rows * r
        rw [Int.mul_comm u]; omega
      · show t.2 = t.2 / rows * rows
        omega
    · exact absurd km (no _ _ rfl (by omega) (by omega) _)
  · unfold searchOf at hs
    rw [List.findSome?_eq_none_iff] at hs
    exact absurd kB (row_none ok kW W1 (hs n.2.2 (mem_divs.mpr ⟨c1, by omega, by rw [ec]; exact Int.dvd_refl _⟩)) n.2.1)
/-- a net is told by its shifts -/
theorem lat_uniq {n m : T3} (hn : NV n) (hm : NV m) (h : ∀ t, InL n t ↔ InL m t) : n = m := by
  have a1 := hn.a1; have a2 := hm.a1; have c1 := hn.c1; have c2 := hm.c1
  have b1 := hn.b0; have b2 := hm.b0; have b3 := hn.ba; have b4 := hm.ba
  have wid : ∀ {n m : T3}, NV n → NV m → (∀ t, InL n t → InL m t) → m.1 ∣ n.1 ∧ m.2.2 ∣ n.2.2 := fun {n m} hn hm h => by
    constructor
    · obtain ⟨u, v, e⟩ := h (n.1, 0) ⟨1, 0, by simp⟩
      have e1 : n.1 = u * m.1 + v * m.2.1 := congrArg Prod.fst e
      have e2 : (0 : Int) = v * m.2.2 := congrArg Prod.snd e
      have := hm.c1
      have v0 : v = 0 := (Int.mul_eq_zero.mp e2.symm).resolve_right (by omega)
      rw [v0, Int.zero_mul, Int.add_zero] at e1
      exact ⟨u, by rw [e1, Int.mul_comm]⟩
    · obtain ⟨u, v, e⟩ := h (n.2.1, n.2.2) ⟨0, 1, by simp⟩
      exact ⟨v, by rw [show n.2.2 = v * m.2.2 from congrArg Prod.snd e, Int.mul_comm]⟩
  obtain ⟨h1, h2⟩ := wid hn hm fun t => (h t).mp
  obtain ⟨h3, h4⟩ := wid hm hn fun t => (h t).mpr
  have ea : n.1 = m.1 := Int.le_antisymm (Int.le_of_dvd (by omega) h3) (Int.le_of_dvd (by omega) h1)
  have ec : n.2.2 = m.2.2 := Int.le_antisymm (Int.le_of_dvd (by omega) h4) (Int.le_of_dvd (by omega) h2)
  obtain ⟨u, v, e⟩ := (h (n.2.1, n.2.2)).mp ⟨0, 1, by simp⟩
  have e1 : n.2.1 = u * m.1 + v * m.2.1 := congrArg Prod.fst e
  have e2 : n.2.2 = v * m.2.2 := congrArg Prod.snd e
  have v1 : v = 1 := by
    have : (v - 1) * m.2.2 = 0 := by rw [Int.sub_mul, Int.one_mul, ← e2]; omega
    have := (Int.mul_eq_zero.mp this).resolve_right (by omega)
    omega
  rw [v1, Int.one_mul] at e1
  have eb : n.2.1 = m.2.1 := by
    have : n.2.1 % m.1 = m.2.1 % m.1 := by rw [e1, Int.add_comm]; exact Int.add_mul_emod_self_right _ _ _
    rwa [Int.emod_eq_of_lt b1 (by omega), Int.emod_eq_of_lt b2 b4] at this
  exact Prod.ext ea (Prod.ext eb ec)
theorem rowsTo_at {A C x y : Nat} (hx : x < A) (hy : y < C) : (rowsTo A C)[y * A + x]? = some (((x : Nat) : Int), ((y : Nat) : Int)) := by
  induction C with
  | zero => omega
  | succ C ih =>
    rw [rowsTo_step]
    by_cases h : y < C
    · have hlt : y * A + x < C * A := by
        have : (y + 1) * A ≤ C * A := Nat.mul_le_mul_right _ h
        rw [Nat.succ_mul] at this
        omega
      rw [List.getElem?_append_left (by rw [rowsTo_len]; exact hlt)]
      exact ih h
    · obtain rfl : y = C := by omega
      rw [List.getElem?_append_right (by rw [rowsTo_len]; omega), rowsTo_len, show y * A + x - y * A = x by omega]
      unfold SG.rowFrom
      rw [List.getElem?_map, List.getElem?_range' (by omega)]
      simp
theorem cell_at {n : T3} (ok : NOk n) (p : Pt) : (cellL n)[ixOf n p]? = some (low n p) := by
  obtain ⟨h1, h2, h3, h4⟩ := low_rng ok p
  have a1 := ok.a1; have c1 := ok.c1
  have := rowsTo_at (A := n.1.toNat) (C := n.2.2.toNat) (x := (low n p).1.toNat) (y := (low n p).2.toNat) (by omega) (by omega)
  rw [rowsTo_all] at this
  have e : ixOf n p = (low n p).2.toNat * n.1.toNat + (low n p).1.toNat := by
    have i1 := (ix_rng ok p).1
    have : (((low n p).2.toNat * n.1.toNat + (low n p).1.toNat : Nat) : Int) = (low n p).2 * n.1 + (low n p).1 := by
      rw [Int.natCast_add, Int.natCast_mul, show (((low n p).2.toNat : Nat) : Int) = (low n p).2 by omega, show ((n.1.toNat : Nat) : Int) = n.1 by omega, show (((low n p).1.toNat : Nat) : Int) = (low n p).1 by omega]
    omega
  rw [e]
  unfold cellL
  rw [this]
  congr 1
  exact Prod.ext (by show (((low n p).1.toNat : Nat) : Int) = _; omega) (by show (((low n p).2.toNat : Nat) : Int) = _; omega)
theorem map_colr {m : T3} (ok : NOk m) (g : Pt → Nat) (p : Pt) : colr m ((cellL m).map g) p = g (low m p) := by
  unfold colr
  rw [List.getD_eq_getElem?_getD, List.getElem?_map, cell_at ok p]; rfl
theorem colr_ext {m : T3} {L M : List Nat} (h1 : TOk m L) (h2 : TOk m M) (h : ∀ p, colr m L p = colr m M p) : L = M := by
  have key : ∀ {L : List Nat}, TOk m L → L = (cellL m).map (colr m L) := fun {L} hL => by
    refine List.ext_getElem? fun i => ?_
    rw [List.getElem?_map]
    have hlen : L.length = (cellL m).length := by have := hL.len; have := h1.net.nat; rw [cellL_len]; omega
    by_cases hi : i < (cellL m).length
    · have hp := List.getElem?_eq_getElem hi
      have hc : (cellL m)[i] ∈ cellL m := List.getElem_mem hi
      rw [hp, List.getElem?_eq_getElem (by omega)]
      have hl := low_self h1.net hc
      have hx := cell_at h1.net ((cellL m)[i])
      rw [hl] at hx
      have hix : ixOf m ((cellL m)[i]) = i := by
        have nat := h1.net.nat
        have a1 := h1.net.a1; have c1 := h1.net.c1
        have e1 := (ix_rng h1.net ((cellL m)[i])).1
        rw [hl] at e1
        -- the place at index i
        have h3 := rowsTo_at (A := m.1.toNat) (C := m.2.2.toNat) (x := i % m.1.toNat) (y := i / m.1.toNat) (Nat.mod_lt _ (by omega)) (by rw [cellL_len] at hi; exact Nat.div_lt_of_lt_mul (by rw [Nat.mul_comm]; exact hi))
        rw [Nat.mul_comm, Nat.div_add_mod, rowsTo_all] at h3
        have h4 : (cellL m)[i]? = some (((i % m.1.toNat : Nat) : Int), ((i / m.1.toNat : Nat) : Int)) := h3
        rw [hp] at h4
        have h5 := Option.some.inj h4
        rw [h5] at e1 ⊢
        have : (ixOf m (((i % m.1.toNat : Nat) : Int), ((i / m.1.toNat : Nat) : Int)) : Int) = ((i / m.1.toNat : Nat) : Int) * m.1 + ((i % m.1.toNat : Nat) : Int) := e1
        have h6 : (((i / m.1.toNat) * m.1.toNat + i % m.1.toNat : Nat) : Int) = ((i / m.1.toNat : Nat) : Int) * m.1 + ((i % m.1.toNat : Nat) : Int) := by
          rw [Int.natCast_add, Int.natCast_mul, show ((m.1.toNat : Nat) : Int) = m.1 by omega]
        have h7 : (i / m.1.toNat) * m.1.toNat + i % m.1.toNat = i := by rw [Nat.mul_comm]; exact Nat.div_add_mod _ _
        omega
      show some L[i] = some (colr m L ((cellL m)[i]))
      unfold colr
      rw [hix, List.getD_eq_getElem?_getD, List.getElem?_eq_getElem (by omega)]; rfl
    · rw [List.getElem?_eq_none (by omega), List.getElem?_eq_none (by omega)]; rfl
  rw [key h1, key h2]
  exact List.map_congr_left fun p _ => h p
/-- the smaller cell has the same colours -/
theorem re_colr {n m : T3} {L : List Nat} (ok : NOk n) (mok : NOk m) (h : KeptR n L m) (p : Pt) : colr m (reText n L m) p = colr n L p := by
  unfold reText
  rw [map_colr mok]
  have hk := ((kept_iff ok h).2 _).mp (low_diff mok.nv p)
  have := hk (low m p)
  rw [padd_psub] at this
  exact this.symm
/-- the net has all shifts that keep the colours -/
structure Exact (n : T3) (L : List Nat) : Prop where
  tok : TOk n L
  all : ∀ t, Keeps (colr n L) t → InL n t
theorem re_exact {n m : T3} {L : List Nat} (ok : NOk n) (mok : NOk m) (h : KeptR n L m) : Exact m (reText n L m) :=
  ⟨reText_ok n L mok, fun t ht => ((kept_iff ok h).2 t).mpr fun p => by rw [← re_colr ok mok h, ← re_colr ok mok h]; exact ht p⟩
/-- what is exact stays as it is -/
theorem exact_same {n m : T3} {L : List Nat} (e : Exact n L) (mok : NOk m) (h : KeptR n L m) : m = n ∧ reText n L m = L := by
  have hm : m = n := lat_uniq (kept_iff e.tok.net h).1 e.tok.net.nv fun t => ⟨fun l => e.all t (((kept_iff e.tok.net h).2 t).mp l), fun l => ((kept_iff e.tok.net h).2 t).mpr (colr_keeps e.tok.net.nv l)⟩
  subst hm
  exact ⟨rfl, colr_ext (reText_ok m L mok) e.tok fun p => re_colr e.tok.net mok h p⟩
end Cp
set_option linter.all false
/-! M2: paths, classes of parts. -/
namespace Cp
theorem nbs_symm {p q : Pt} (h : q ∈ nbs p) : p ∈ nbs q := by
  obtain ⟨x, y⟩ := p
  simp only [nbs, List.mem_cons, List.not_mem_nil, or_false] at h ⊢
  rcases h with rfl | rfl | rfl | rfl
  · exact .inr (.inr (.inl (Prod.ext (by show x = x + 1 - 1; omega) rfl)))
  · exact .inr (.inr (.inr (Prod.ext rfl (by show y = y + 1 - 1; omega))))
  · exact .inl (Prod.ext (by show x = x - 1 + 1; omega) rfl)
  · exact .inr (.inl (Prod.ext rfl (by show y = y - 1 + 1; omega)))
theorem nbs_add {p q : Pt} (t : Pt) (h : q ∈ nbs p) : padd q t ∈ nbs (padd p t) := by
  simp only [nbs, List.mem_cons, List.not_mem_nil, or_false] at h ⊢
  rcases h with rfl | rfl | rfl | rfl
  · exact .inl (Prod.ext (by show p.1 + 1 + t.1 = p.1 + t.1 + 1; omega) rfl)
  · exact .inr (.inl (Prod.ext rfl (by show p.2 + 1 + t.2 = p.2 + t.2 + 1; omega)))
  · exact .inr (.inr (.inl (Prod.ext (by show p.1 - 1 + t.1 = p.1 + t.1 - 1; omega) rfl)))
  · exact .inr (.inr (.inr (Prod.ext rfl (by show p.2 - 1 + t.2 = p.2 + t.2 - 1; omega))))
section
variable {f g : Pt → Nat} {p q r : Pt}
theorem Conn.col (h : Conn f p q) : f q = f p := by
  induction h with
  | refl => rfl
  | step _ _ e ih => exact e.trans ih
theorem Conn.trans (h : Conn f p q) (k : Conn f q r) : Conn f p r := by
  induction k with
  | refl => exact h
  | step _ m e ih => exact .step ih m e
theorem Conn.one (m : q ∈ nbs p) (e : f q = f p) : Conn f p q := .step .refl m e
theorem Conn.symm (h : Conn f p q) : Conn f q p := by
  induction h with
  | refl => exact .refl
  | step _ m e ih => exact (Conn.one (nbs_symm m) e.symm).trans ih
theorem Conn.shift {t : Pt} (k : Keeps f t) (h : Conn f p q) : Conn f (padd p t) (padd q t) := by
  induction h with
  | refl => exact .refl
  | step _ m e ih => exact .step ih (nbs_add t m) (by rw [k, k]; exact e)
/-- equal where f is: a path of f is a path of g -/
theorem Conn.mono (h : ∀ a b, b ∈ nbs a → f b = f a → g b = g a) (k : Conn f p q) : Conn g p q := by
  induction k with
  | refl => exact .refl
  | step _ m e ih => exact .step ih m (h _ _ m e)
end
/-- q is in a part of the class of the part of p -/
def Cl (f : Pt → Nat) (n : T3) (p q : Pt) : Prop := ∃ r, Conn f p r ∧ low n r = low n q
section
variable {f g : Pt → Nat} {n : T3} {p q r : Pt}
theorem Cl.refl : Cl f n p p := ⟨p, .refl, rfl⟩
theorem Cl.of (h : Conn f p q) : Cl f n p q := ⟨q, h, rfl⟩
theorem padd_comm3 (p t : Pt) : padd p t = padd t p := Prod.ext (Int.add_comm ..) (Int.add_comm ..)
theorem Cl.trans (hn : NV n) (k : ∀ t, InL n t → Keeps f t) (h : Cl f n p q) (h2 : Cl f n q r) : Cl f n p r := by
  obtain ⟨a, ca, ea⟩ := h
  obtain ⟨b, cb, eb⟩ := h2
  have l := (low_iff hn).mp ea
  have c2 := cb.shift (k _ l)
  rw [padd_psub] at c2
  exact ⟨_, ca.trans c2, (low_add hn b l).trans eb⟩
theorem Cl.symm (hn : NV n) (k : ∀ t, InL n t → Keeps f t) (h : Cl f n p q) : Cl f n q p := by
  obtain ⟨a, ca, ea⟩ := h
  have l := (low_iff hn).mp ea.symm
  have c2 := ca.symm.shift (k _ l)
  rw [padd_psub] at c2
  exact ⟨_, c2, low_add hn p l⟩
theorem Cl.col (hn : NV n) (k : ∀ t, InL n t → Keeps f t) (h : Cl f n p q) : f q = f p := by
  obtain ⟨a, ca, ea⟩ := h
  have l := (low_iff hn).mp ea.symm
  have := k _ l a
  rw [padd_psub] at this
  exact this.trans ca.col
theorem Cl.at_ (h : Cl f n p q) (e : low n q = low n r) : Cl f n p r := let ⟨a, ca, ea⟩ := h; ⟨a, ca, ea.trans e⟩
end
section
variable {n : T3} {L : List Nat} {p0 : Pt} {M : List (Pt × Pt)} {S : List Pt} {b : Nat}
theorem per (ok : NOk n) (L : List Nat) : ∀ t, InL n t → Keeps (colr n L) t := fun t l => colr_keeps ok.nv l
/-- what is met by the search is the class -/
theorem DF.low_mem (ok : NOk n) (h : DF n L p0 M S b) {q : Pt} (c : Conn (colr n L) p0 q) : Cp.low n q ∈ M.map (·.1) := by
  induction c with
  | refl =>
    have hm := List.mem_of_getElem? h.head
    have := h.low _ hm
    rw [this]
    exact List.mem_map.mpr ⟨_, hm, rfl⟩
  | @step q r c hr e ih =>
    obtain ⟨x, hx, hl⟩ := List.mem_map.mp ih
    have l1 := h.low x hx
    rw [hl] at l1
    have lt := (low_iff ok.nv).mp l1
    have hn := nbs_add (psub x.2 q) hr
    rw [padd_psub] at hn
    have hc := per ok L _ lt r
    obtain ⟨y, hy, _⟩ := h.clo x hx _ hn (by rw [hc, e, c.col])
    rw [low_add ok.nv r lt] at hy
    exact List.mem_map.mpr ⟨_, fnd_mem hy, rfl⟩
theorem DF.mem (ok : NOk n) (h : DF n L p0 M S b) (q : Pt) : Cp.low n q ∈ M.map (·.1) ↔ Cl (colr n L) n p0 q := by
  constructor
  · intro hq
    obtain ⟨x, hx, hl⟩ := List.mem_map.mp hq
    exact ⟨x.2, h.conn x hx, (h.low x hx).trans hl⟩
  · rintro ⟨r, c, e⟩
    rw [← e]; exact h.low_mem ok c
theorem DF.key (ok : NOk n) (h : DF n L p0 M S b) {k : Pt} (hk : k ∈ M.map (·.1)) : k ∈ cellL n ∧ Cp.low n k = k := by
  obtain ⟨x, hx, rfl⟩ := List.mem_map.mp hk
  have := h.low x hx
  rw [← this]
  exact ⟨low_cell ok _, low_low ok _⟩
/-- no way leads from a place to another one with the same place of the cell -/
def NoLoop (f : Pt → Nat) (n : T3) (p : Pt) : Prop := ∀ u v, Conn f p u → Conn f p v → Cp.low n u = Cp.low n v → u = v
theorem DF.loops (ok : NOk n) (h : DF n L p0 M S b) : S = [] ↔ NoLoop (colr n L) n p0 := by
  constructor
  · intro hS
    have key : ∀ q, Conn (colr n L) p0 q → fnd M (Cp.low n q) = some q := by
      intro q c
      induction c with
      | refl =>
        have hm := List.mem_of_getElem? h.head
        rw [h.low _ hm]
        exact fnd_nodup h.nod hm
      | @step q r c hr e ih =>
        obtain ⟨y, hy, hz⟩ := h.clo _ (fnd_mem ih) r hr (by rw [e, c.col])
        rw [hS] at hz
        rcases hz with rfl | hz
        · exact hy
        · cases hz
    intro u v cu cv e
    have h1 := key u cu
    have h2 := key v cv
    rw [e, h2] at h1
    exact (Option.some.inj h1).symm
  · intro hL
    cases S with
    | nil => rfl
    | cons s S =>
      obtain ⟨s0, u, v, cu, cv, es, el⟩ := h.sh s (List.mem_cons_self ..)
      have := hL u v cu cv el
      subst this
      have e0 : psub u u = (0, 0) := Prod.ext (by show u.1 - u.1 = 0; omega) (by show u.2 - u.2 = 0; omega)
      exact absurd (es.trans e0) s0
end
section
variable {f g : Pt → Nat} {n : T3} {p q : Pt}
theorem NoLoop.conn (h : NoLoop f n p) (c : Conn f p q) : NoLoop f n q := fun u v cu cv e => h u v (c.trans cu) (c.trans cv) e
theorem NoLoop.shift {t : Pt} (hn : NV n) (l : InL n t) (k : Keeps f t) (h : NoLoop f n p) : NoLoop f n (padd p t) := fun u v cu cv e => by
  have kn := k.neg
  have ln := l.neg
  have c1 := cu.shift kn
  have c2 := cv.shift kn
  rw [padd_neg] at c1 c2
  have := h _ _ c1 c2 (by rw [low_add hn u ln, low_add hn v ln, e])
  have h3 := congrArg (fun z => padd z t) this
  rwa [padd_neg', padd_neg'] at h3
theorem NoLoop.cl (hn : NV n) (k : ∀ t, InL n t → Keeps f t) (h : NoLoop f n p) (c : Cl f n p q) : NoLoop f n q := by
  obtain ⟨r, cr, e⟩ := c
  have l := (low_iff hn).mp e.symm
  have := (h.conn cr).shift hn l (k _ l)
  rwa [padd_psub] at this
end
/-! ### parts together cover the cell -/
theorem perm_same {α : Type} [DecidableEq α] : ∀ {l m : List α}, l.Nodup → m.Nodup → (∀ x, x ∈ l ↔ x ∈ m) → l.Perm m
  | [], m, _, _, h => by
    cases m with
    | nil => exact .nil
    | cons a m => exact absurd ((h a).mpr (List.mem_cons_self ..)) (by simp)
  | a :: l, m, nl, nm, h => by
    rw [List.nodup_cons] at nl
    have ha := (h a).mp (List.mem_cons_self ..)
    have h2 := List.perm_cons_erase ha
    refine List.Perm.trans (List.Perm.cons a (perm_same nl.2 (nm.erase a) fun x => ?_)) h2.symm
    constructor
    · intro hx
      have hne : x ≠ a := fun z => nl.1 (z ▸ hx)
      exact (List.mem_erase_of_ne hne).mpr ((h x).mp (List.mem_cons_of_mem _ hx))
    · intro hx
      have hne : x ≠ a := fun z => by rw [z] at hx; exact (List.Nodup.not_mem_erase nm) hx
      rcases List.mem_cons.mp ((h x).mpr ((List.mem_erase_of_ne hne).mp hx)) with z | z
      · exact absurd z hne
      · exact z
theorem cell_nodup (n : T3) : (cellL n).Nodup := by
  unfold cellL
  rw [← rowsTo_all]
  unfold rowsTo
  rw [List.nodup_iff_pairwise_ne]
  refine List.pairwise_flatMap.mpr ⟨fun y _ => ?_, ?_⟩
  · unfold SG.rowFrom
    rw [List.pairwise_map]
    refine List.Pairwise.imp ?_ (List.pairwise_lt_range' (s := 0))
    intro a b h z
    have : (a : Int) = (b : Int) := congrArg Prod.fst z
    omega
  · refine List.Pairwise.imp ?_ (List.pairwise_lt_range' (s := 0))
    intro a b h x hx y hy z
    unfold SG.rowFrom at hx hy
    obtain ⟨i, _, rfl⟩ := List.mem_map.mp hx
    obtain ⟨j, _, rfl⟩ := List.mem_map.mp hy
    have : (a : Int) = (b : Int) := congrArg Prod.snd z
    omega
theorem keys_nodup {n : T3} {L : List Nat} (ok : NOk n) {ds : List PD} (h : PsOk n L ds) : (keysOf ds).Nodup := by
  unfold keysOf
  rw [List.nodup_iff_pairwise_ne]
  refine List.pairwise_flatMap.mpr ⟨fun d hd => List.nodup_iff_pairwise_ne.mp (h.all d hd).df.nod, ?_⟩
  refine h.new.imp_of_mem fun {d e} hd he hn x hx y hy z => ?_
  subst z
  apply hn
  have pd := h.all d hd
  have pe := h.all e he
  have lx := (pd.df.key ok hx).2
  have c1 : Cl (colr n L) n d.p0 x := (pd.df.mem ok x).mp (by rw [lx]; exact hx)
  have c2 : Cl (colr n L) n e.p0 x := (pe.df.mem ok x).mp (by rw [lx]; exact hy)
  have c3 := c1.trans ok.nv (per ok L) (c2.symm ok.nv (per ok L))
  have := (pd.df.mem ok e.p0).mpr c3
  rwa [low_self ok pe.cell] at this
theorem keys_perm {n : T3} {L : List Nat} (ok : NOk n) {ds : List PD} (h : PsOk n L ds) (cov : ∀ p ∈ cellL n, p ∈ keysOf ds) : (keysOf ds).Perm (cellL n) :=
  perm_same (keys_nodup ok h) (cell_nodup n) fun x => ⟨fun hx => by
    obtain ⟨d, hd, hk⟩ := List.mem_flatMap.mp hx
    exact ((h.all d hd).df.key ok hk).1, cov x⟩
end Cp
set_option linter.all false
/-! M3: borders. -/
namespace Cp
/-- how many neighbours have another colour -/
def dif (f : Pt → Nat) (p : Pt) : Nat := ((nbs p).filter fun q => decide (f q ≠ f p)).length
def i1 (b : Prop) [Decidable b] : Nat := if b then 1 else 0
theorem dif_eq (f : Pt → Nat) (p : Pt) : dif f p = i1 (f (p.1 + 1, p.2) ≠ f p) + i1 (f (p.1, p.2 + 1) ≠ f p) + i1 (f (p.1 - 1, p.2) ≠ f p) + i1 (f (p.1, p.2 - 1) ≠ f p) := by
  unfold dif nbs i1
  by_cases h1 : f (p.1 + 1, p.2) = f p <;> by_cases h2 : f (p.1, p.2 + 1) = f p <;> by_cases h3 : f (p.1 - 1, p.2) = f p <;> by_cases h4 : f (p.1, p.2 - 1) = f p <;> simp [h1, h2, h3, h4]
theorem dif_keeps {f : Pt → Nat} {t : Pt} (k : Keeps f t) (p : Pt) : dif f (padd p t) = dif f p := by
  rw [dif_eq, dif_eq, k p]
  have h1 : f ((padd p t).1 + 1, (padd p t).2) = f (p.1 + 1, p.2) := by
    have := k (p.1 + 1, p.2)
    rw [← this]; congr 1; exact Prod.ext (by show p.1 + t.1 + 1 = p.1 + 1 + t.1; omega) rfl
  have h2 : f ((padd p t).1, (padd p t).2 + 1) = f (p.1, p.2 + 1) := by
    have := k (p.1, p.2 + 1)
    rw [← this]; congr 1; exact Prod.ext rfl (by show p.2 + t.2 + 1 = p.2 + 1 + t.2; omega)
  have h3 : f ((padd p t).1 - 1, (padd p t).2) = f (p.1 - 1, p.2) := by
    have := k (p.1 - 1, p.2)
    rw [← this]; congr 1; exact Prod.ext (by show p.1 + t.1 - 1 = p.1 - 1 + t.1; omega) rfl
  have h4 : f ((padd p t).1, (padd p t).2 - 1) = f (p.1, p.2 - 1) := by
    have := k (p.1, p.2 - 1)
    rw [← this]; congr 1; exact Prod.ext rfl (by show p.2 + t.2 - 1 = p.2 - 1 + t.2; omega)
  rw [h1, h2, h3, h4]
theorem dif_low {n : T3} {L : List Nat} (ok : NOk n) (p : Pt) : dif (colr n L) (low n p) = dif (colr n L) p := by
  have h := low_diff ok.nv p
  have := dif_keeps (per ok L _ h) (low n p)
  rw [padd_psub] at this
  exact this.symm
theorem DF.border {n : T3} {L : List Nat} {p0 : Pt} {M : List (Pt × Pt)} {S : List Pt} {b : Nat} (ok : NOk n) (h : DF n L p0 M S b) : b = ((M.map (·.1)).map (dif (colr n L))).sum := by
  rw [h.bor, List.map_map]
  congr 1
  refine List.map_congr_left fun e he => ?_
  show _ = dif (colr n L) e.1
  rw [← h.low e he, dif_low ok]
  unfold dif
  rw [h.col e he]
theorem sum_flatMap {α β : Type} (f : α → List β) (g : β → Nat) : ∀ l : List α, ((l.flatMap f).map g).sum = (l.map fun x => ((f x).map g).sum).sum
  | [] => rfl
  | a :: l => by rw [List.flatMap_cons, List.map_append, List.sum_append, sum_flatMap f g l, List.map_cons, List.sum_cons]
/-- the borders of all parts together -/
theorem borders_sum {n : T3} {L : List Nat} (ok : NOk n) {ds : List PD} (h : PsOk n L ds) (cov : ∀ p ∈ cellL n, p ∈ keysOf ds) : (ds.map (·.b)).sum = ((cellL n).map (dif (colr n L))).sum := by
  rw [← perm_sum ((keys_perm ok h cov).map (dif (colr n L)))]
  unfold keysOf
  rw [sum_flatMap]
  congr 1
  exact List.map_congr_left fun d hd => (h.all d hd).df.border ok
theorem sum_add {α : Type} (f g : α → Nat) : ∀ l : List α, (l.map fun x => f x + g x).sum = (l.map f).sum + (l.map g).sum
  | [] => rfl
  | a :: l => by rw [List.map_cons, List.map_cons, List.map_cons, List.sum_cons, List.sum_cons, List.sum_cons, sum_add f g l]; omega
/-- a sum over the cell is the same over the moved cell -/
theorem sum_shift {n : T3} (ok : NOk n) (g : Pt → Nat) (k : ∀ p t, InL n t → g (padd p t) = g p) (s : Pt) : ((cellL n).map fun p => g (padd p s)).sum = ((cellL n).map g).sum := by
  have hl : ∀ p, g (low n p) = g p := fun p => by
    have := k (low n p) _ (low_diff ok.nv p)
    rw [padd_psub] at this
    exact this.symm
  have e : (cellL n).map (fun p => g (padd p s)) = ((cellL n).map fun p => low n (padd p s)).map g := by
    rw [List.map_map]
    exact List.map_congr_left fun p _ => (hl _).symm
  rw [e]
  refine perm_sum (List.Perm.map g (perm_same ?_ (cell_nodup n) fun x => ?_))
  · rw [List.nodup_iff_pairwise_ne, List.pairwise_map]
    refine List.Pairwise.imp_of_mem ?_ (List.nodup_iff_pairwise_ne.mp (cell_nodup n))
    intro a b ha hb hne z
    apply hne
    have l := (low_iff ok.nv).mp z
    have e1 : psub (padd a s) (padd b s) = psub a b := Prod.ext (by show a.1 + s.1 - (b.1 + s.1) = a.1 - b.1; omega) (by show a.2 + s.2 - (b.2 + s.2) = a.2 - b.2; omega)
    rw [e1] at l
    have := (low_iff ok.nv).mpr l
    rwa [low_self ok ha, low_self ok hb] at this
  · rw [List.mem_map]
    constructor
    · rintro ⟨p, _, rfl⟩
      exact low_cell ok _
    · intro hx
      refine ⟨low n (padd x (-s.1, -s.2)), low_cell ok _, ?_⟩
      have l := low_diff ok.nv (padd x (-s.1, -s.2))
      have h1 := low_add ok.nv (padd (low n (padd x (-s.1, -s.2))) s) l
      have h2 : padd (padd (low n (padd x (-s.1, -s.2))) s) (psub (padd x (-s.1, -s.2)) (low n (padd x (-s.1, -s.2)))) = x := by
        rw [padd_assoc, padd_comm3 s, ← padd_assoc, padd_psub, padd_neg']
      rw [h2] at h1
      rw [← h1]
      exact low_self ok hx
theorem i1_comm (a b : Nat) : i1 (a ≠ b) = i1 (b ≠ a) := by
  unfold i1
  by_cases h : a = b
  · rw [if_neg (fun z => z h), if_neg (fun z => z h.symm)]
  · rw [if_pos h, if_pos (fun z => h z.symm)]
/-- each pair of neighbours is counted twice -/
theorem edges_even {n : T3} {L : List Nat} (ok : NOk n) : ((cellL n).map (dif (colr n L))).sum % 2 = 0 := by
  have hk := per ok L
  generalize colr n L = f at *
  have e : (cellL n).map (dif f) = (cellL n).map fun p => (i1 (f (p.1 + 1, p.2) ≠ f p) + i1 (f (p.1 - 1, p.2) ≠ f p)) + (i1 (f (p.1, p.2 + 1) ≠ f p) + i1 (f (p.1, p.2 - 1) ≠ f p)) :=
    List.map_congr_left fun p _ => by rw [dif_eq]; omega
  rw [e, sum_add, sum_add, sum_add]
  have sh : ∀ s : Pt, ((cellL n).map fun p => i1 (f (padd p (-s.1, -s.2)) ≠ f p)).sum = ((cellL n).map fun p => i1 (f (padd p s) ≠ f p)).sum := fun s => by
    have h1 := sum_shift ok (fun p => i1 (f (padd p s) ≠ f p)) (fun p t l => by
      show i1 (f (padd (padd p t) s) ≠ f (padd p t)) = _
      rw [hk t l p, padd_assoc, padd_comm3 t, ← padd_assoc, hk t l]) (-s.1, -s.2)
    rw [← h1]
    congr 1
    refine List.map_congr_left fun p _ => ?_
    show _ = i1 (f (padd (padd p (-s.1, -s.2)) s) ≠ f (padd p (-s.1, -s.2)))
    rw [padd_neg', i1_comm]
  have ex : ((cellL n).map fun p => i1 (f (p.1 - 1, p.2) ≠ f p)).sum = ((cellL n).map fun p => i1 (f (p.1 + 1, p.2) ≠ f p)).sum := by
    have := sh (1, 0)
    have e1 : (cellL n).map (fun p => i1 (f (padd p (-(1, 0).1, -(1, 0).2)) ≠ f p)) = (cellL n).map fun p => i1 (f (p.1 - 1, p.2) ≠ f p) := List.map_congr_left fun p _ => by
      have : padd p (-((1, 0) : Pt).1, -((1, 0) : Pt).2) = (p.1 - 1, p.2) := Prod.ext (by show p.1 + -1 = p.1 - 1; omega) (by show p.2 + -0 = p.2; omega)
      rw [this]
    have e2 : (cellL n).map (fun p => i1 (f (padd p (1, 0)) ≠ f p)) = (cellL n).map fun p => i1 (f (p.1 + 1, p.2) ≠ f p) := List.map_congr_left fun p _ => by
      have : padd p (1, 0) = (p.1 + 1, p.2) := Prod.ext rfl (Int.add_zero _)
      rw [this]
    rw [← e1, ← e2]; exact this
  have ey : ((cellL n).map fun p => i1 (f (p.1, p.2 - 1) ≠ f p)).sum = ((cellL n).map fun p => i1 (f (p.1, p.2 + 1) ≠ f p)).sum := by
    have := sh (0, 1)
    have e1 : (cellL n).map (fun p => i1 (f (padd p (-(0, 1).1, -(0, 1).2)) ≠ f p)) = (cellL n).map fun p => i1 (f (p.1, p.2 - 1) ≠ f p) := List.map_congr_left fun p _ => by
      have : padd p (-((0, 1) : Pt).1, -((0, 1) : Pt).2) = (p.1, p.2 - 1) := Prod.ext (by show p.1 + -0 = p.1; omega) (by show p.2 + -1 = p.2 - 1; omega)
      rw [this]
    have e2 : (cellL n).map (fun p => i1 (f (padd p (0, 1)) ≠ f p)) = (cellL n).map fun p => i1 (f (p.1, p.2 + 1) ≠ f p) := List.map_congr_left fun p _ => by
      have : padd p (0, 1) = (p.1, p.2 + 1) := Prod.ext (Int.add_zero _) rfl
      rw [this]
    rw [← e1, ← e2]; exact this
  rw [ex, ey]
  omega
/-! ### no border: one colour -/
def Plain (f : Pt → Nat) : Prop := ∀ p, ∀ q ∈ nbs p, f q = f p
theorem plain_iff {n : T3} {L : List Nat} (ok : NOk n) : (∀ p ∈ cellL n, ∀ q ∈ nbs p, ¬ colr n L p < colr n L q) ↔ Plain (colr n L) := by
  constructor
  · intro h
    have key : ∀ p, ∀ q ∈ nbs p, ¬ colr n L p < colr n L q := fun p q hq hlt => by
      have l := (low_diff ok.nv p)
      have hn := nbs_add (-(psub p (low n p)).1, -(psub p (low n p)).2) hq
      have ep : padd p (-(psub p (low n p)).1, -(psub p (low n p)).2) = low n p := Prod.ext (by show p.1 + -(p.1 - (low n p).1) = (low n p).1; omega) (by show p.2 + -(p.2 - (low n p).2) = (low n p).2; omega)
      rw [ep] at hn
      apply h _ (low_cell ok p) _ hn
      rw [per ok L _ l.neg q, colr_low (low_low ok p)]
      exact hlt
    intro p q hq
    have h1 := key p q hq
    have h2 := key q p (nbs_symm hq)
    omega
  · intro h p _ q hq
    rw [h p q hq]; omega
theorem Plain.walk {f : Pt → Nat} (h : Plain f) : ∀ p q, Conn f p q := by
  have hx : ∀ (k : Nat) (p : Pt), Conn f p (p.1 + (k : Int), p.2) := fun k => by
    induction k with
    | zero => intro p; rw [show ((p.1 + ((0 : Nat) : Int), p.2) : Pt) = p from Prod.ext (by show p.1 + 0 = p.1; omega) rfl]; exact .refl
    | succ k ih =>
      intro p
      have hq : ((p.1 + ((k + 1 : Nat) : Int), p.2) : Pt) ∈ nbs (p.1 + (k : Int), p.2) := by
        simp only [nbs, List.mem_cons]
        exact .inl (Prod.ext (by show p.1 + ((k + 1 : Nat) : Int) = p.1 + (k : Int) + 1; omega) rfl)
      exact .step (ih p) hq (h _ _ hq)
  have hy : ∀ (k : Nat) (p : Pt), Conn f p (p.1, p.2 + (k : Int)) := fun k => by
    induction k with
    | zero => intro p; rw [show ((p.1, p.2 + ((0 : Nat) : Int)) : Pt) = p from Prod.ext rfl (by show p.2 + 0 = p.2; omega)]; exact .refl
    | succ k ih =>
      intro p
      have hq : ((p.1, p.2 + ((k + 1 : Nat) : Int)) : Pt) ∈ nbs (p.1, p.2 + (k : Int)) := by
        simp only [nbs, List.mem_cons]
        exact .inr (.inl (Prod.ext rfl (by show p.2 + ((k + 1 : Nat) : Int) = p.2 + (k : Int) + 1; omega)))
      exact .step (ih p) hq (h _ _ hq)
  have rx : ∀ (x x' y : Int), Conn f (x, y) (x', y) := fun x x' y => by
    rcases Int.le_total x x' with z | z
    · have := hx (x' - x).toNat (x, y)
      rwa [show ((((x, y) : Pt).1 + (((x' - x).toNat : Nat) : Int), ((x, y) : Pt).2) : Pt) = (x', y) from Prod.ext (by show x + _ = x'; omega) rfl] at this
    · have := hx (x - x').toNat (x', y)
      rw [show ((((x', y) : Pt).1 + (((x - x').toNat : Nat) : Int), ((x', y) : Pt).2) : Pt) = (x, y) from Prod.ext (by show x' + _ = x; omega) rfl] at this
      exact this.symm
  have ry : ∀ (x y y' : Int), Conn f (x, y) (x, y') := fun x y y' => by
    rcases Int.le_total y y' with z | z
    · have := hy (y' - y).toNat (x, y)
      rwa [show ((((x, y) : Pt).1, ((x, y) : Pt).2 + (((y' - y).toNat : Nat) : Int)) : Pt) = (x, y') from Prod.ext rfl (by show y + _ = y'; omega)] at this
    · have := hy (y - y').toNat (x, y')
      rw [show ((((x, y') : Pt).1, ((x, y') : Pt).2 + (((y - y').toNat : Nat) : Int)) : Pt) = (x, y) from Prod.ext rfl (by show y' + _ = y; omega)] at this
      exact this.symm
  exact fun p q => (rx p.1 q.1 p.2).trans (ry q.1 p.2 q.2)
/-- a class that is closed among its neighbours is the whole plane -/
theorem all_conn {f : Pt → Nat} {p : Pt} (h : ∀ q, Conn f p q → ∀ r ∈ nbs q, f r = f q) : Plain f := by
  -- all places are reached along a plain colour
  have w := Plain.walk (f := fun _ => 0) (fun _ _ _ => rfl)
  have key : ∀ q, Conn (fun _ => 0) p q → Conn f p q := fun q c => by
    induction c with
    | refl => exact .refl
    | step _ m _ ih => exact .step ih m (h _ ih _ m)
  intro q r hr
  exact h q (key q (w p q)) r hr
theorem dif_zero {f : Pt → Nat} {p : Pt} : dif f p = 0 ↔ ∀ q ∈ nbs p, f q = f p := by
  unfold dif
  rw [List.length_eq_zero_iff, List.filter_eq_nil_iff]
  constructor
  · intro h q hq
    have := h q hq
    simpa using this
  · intro h q hq
    simpa using h q hq
theorem sum_zero : ∀ {l : List Nat}, l.sum = 0 ↔ ∀ x ∈ l, x = 0
  | [] => by simp
  | a :: l => by
    rw [List.sum_cons]
    constructor
    · intro h x hx
      rcases List.mem_cons.mp hx with rfl | hx
      · omega
      · exact sum_zero.mp (by omega) x hx
    · intro h
      have h1 := h a (List.mem_cons_self ..)
      have h2 := sum_zero.mpr fun x hx => h x (List.mem_cons_of_mem _ hx)
      omega
/-- a part has no border exactly if all is of one colour -/
theorem border_zero {n : T3} {L : List Nat} (ok : NOk n) {d : PD} (h : PDok n L d) : d.b = 0 ↔ Plain (colr n L) := by
  rw [h.df.border ok, sum_zero]
  constructor
  · intro hz
    refine all_conn (p := d.p0) fun q cq r hr => ?_
    have hk := h.df.low_mem ok cq
    have := hz _ (List.mem_map.mpr ⟨_, hk, rfl⟩)
    rw [dif_low ok, dif_zero] at this
    exact this r hr
  · intro hp x hx
    obtain ⟨k, _, rfl⟩ := List.mem_map.mp hx
    exact dif_zero.mpr (hp k)
end Cp
set_option linter.all false
/-! M4: painting a class of parts. -/
namespace Cp
theorem paint_tok {n : T3} (ok : NOk n) (L : List Nat) (ks : List Pt) (c : Nat) : TOk n (paintL n L ks c) := ⟨ok, by unfold paintL; rw [List.length_map, cellL_len, ok.nat]⟩
/-- the colours after a class is painted -/
theorem paint_colr {n : T3} {L : List Nat} (ok : NOk n) (ks : List Pt) (c : Nat) (q : Pt) : colr n (paintL n L ks c) q = if low n q ∈ ks then c else colr n L q := by
  unfold paintL
  rw [map_colr ok]
  rw [colr_low (low_low ok q)]
theorem paint_cl {n : T3} {L : List Nat} {d : PD} (h : PDok n L d) (ok : NOk n) (c : Nat) (q : Pt) [Decidable (Cl (colr n L) n d.p0 q)] : colr n (paintL n L (d.M.map (·.1)) c) q = if Cl (colr n L) n d.p0 q then c else colr n L q := by
  rw [paint_colr ok]
  by_cases z : Cl (colr n L) n d.p0 q
  · rw [if_pos z, if_pos ((h.df.mem ok q).mpr z)]
  · rw [if_neg z, if_neg (fun y => z ((h.df.mem ok q).mp y))]
theorem paint_in {n : T3} {L : List Nat} {d : PD} (h : PDok n L d) (ok : NOk n) (c : Nat) {q : Pt} (z : Cl (colr n L) n d.p0 q) : colr n (paintL n L (d.M.map (·.1)) c) q = c := by
  rw [paint_colr ok, if_pos ((h.df.mem ok q).mpr z)]
theorem paint_out {n : T3} {L : List Nat} {d : PD} (h : PDok n L d) (ok : NOk n) (c : Nat) {q : Pt} (z : ¬ Cl (colr n L) n d.p0 q) : colr n (paintL n L (d.M.map (·.1)) c) q = colr n L q := by
  rw [paint_colr ok, if_neg (fun y => z ((h.df.mem ok q).mp y))]
/-! ### joined places -/
theorem PDok.cls {n : T3} {L : List Nat} {d : PD} (ok : NOk n) (h : PDok n L d) {p : Pt} (hp : low n p ∈ d.M.map (·.1)) : Cl (colr n L) n d.p0 p := (h.df.mem ok p).mp hp
/-- of two colours: not joined -/
theorem join_no {n : T3} {L : List Nat} (ok : NOk n) {u v : Pt} (hc : colr n L u ≠ colr n L v) : ∀ d, PDok n L d → low n u ∈ d.M.map (·.1) → JoinOk n u v d false := fun d h hu => by
  refine .inl ⟨rfl, fun hv => hc ?_⟩
  rw [(h.cls ok hu).col ok.nv (per ok L), (h.cls ok hv).col ok.nv (per ok L)]
/-- neighbours of one colour: joined -/
theorem join_yes {n : T3} {L : List Nat} (ok : NOk n) {u v : Pt} (hv : v ∈ nbs u) (hc : colr n L v = colr n L u) : ∀ d, PDok n L d → low n u ∈ d.M.map (·.1) → JoinOk n u v d true := fun d h hu => by
  refine .inr ⟨rfl, ?_⟩
  obtain ⟨x, hx, hl⟩ := List.mem_map.mp hu
  have f1 := fnd_nodup h.df.nod hx
  rw [hl] at f1
  have l1 := h.df.low x hx
  rw [hl] at l1
  have lt := (low_iff ok.nv).mp l1
  have hn := nbs_add (psub x.2 u) hv
  rw [padd_psub] at hn
  have ec := per ok L _ lt v
  have hcol : colr n L (padd v (psub x.2 u)) = colr n L d.p0 := by
    rw [ec, hc, ← h.df.col x hx]
    have := per ok L _ lt u
    rw [padd_psub] at this
    exact this.symm
  obtain ⟨r, hr, hs⟩ := h.df.clo x hx _ hn hcol
  rw [low_add ok.nv v lt] at hr
  refine ⟨x.2, r, f1, hr, ?_⟩
  have e : psub (psub v r) (psub u x.2) = psub (padd v (psub x.2 u)) r := Prod.ext (by show v.1 - r.1 - (u.1 - x.2.1) = v.1 + (x.2.1 - u.1) - r.1; omega) (by show v.2 - r.2 - (u.2 - x.2.2) = v.2 + (x.2.2 - u.2) - r.2; omega)
  rw [e]
  rcases hs with hs | hs
  · left
    rw [hs]
    exact Prod.ext (Int.sub_self r.1) (Int.sub_self r.2)
  · exact .inr hs
/-! ### a colour that is nowhere -/
section
variable {n : T3} {L : List Nat} {d : PD} {c : Nat} (ok : NOk n) (h : PDok n L d) (hc : ∀ p, colr n L p ≠ c)
include ok h hc
theorem new_iff (q : Pt) : colr n (paintL n L (d.M.map (·.1)) c) q = c ↔ Cl (colr n L) n d.p0 q := by
  constructor
  · intro e
    by_cases z : Cl (colr n L) n d.p0 q
    · exact z
    · rw [paint_out h ok c z] at e
      exact absurd e (hc q)
  · exact paint_in h ok c
theorem new_keeps {t : Pt} (k : Keeps (colr n (paintL n L (d.M.map (·.1)) c)) t) : Keeps (colr n L) t := fun p => by
  have e := k p
  by_cases z : Cl (colr n L) n d.p0 p
  · have z2 := (new_iff ok h hc _).mp (e.trans (paint_in h ok c z))
    rw [z.col ok.nv (per ok L), z2.col ok.nv (per ok L)]
  · have z2 : ¬ Cl (colr n L) n d.p0 (padd p t) := fun y => z ((new_iff ok h hc _).mp (e.symm.trans (paint_in h ok c y)))
    rw [paint_out h ok c z, paint_out h ok c z2] at e
    exact e
theorem new_exact (hx : Exact n L) : Exact n (paintL n L (d.M.map (·.1)) c) := ⟨paint_tok ok L _ c, fun t k => hx.all t (new_keeps ok h hc k)⟩
/-- one step among equals -/
theorem new_step {a b : Pt} (za : Cl (colr n L) n d.p0 a) (m : b ∈ nbs a) : colr n L b = colr n L a ↔ colr n (paintL n L (d.M.map (·.1)) c) b = colr n (paintL n L (d.M.map (·.1)) c) a := by
  rw [paint_in h ok c za, new_iff ok h hc]
  constructor
  · intro e
    exact za.trans ok.nv (per ok L) (Cl.of (Conn.one m e))
  · intro zb
    rw [zb.col ok.nv (per ok L), za.col ok.nv (per ok L)]
theorem new_conn (q : Pt) : Conn (colr n (paintL n L (d.M.map (·.1)) c)) d.p0 q ↔ Conn (colr n L) d.p0 q := by
  constructor
  · intro k
    induction k with
    | refl => exact .refl
    | step _ m e ih => exact .step ih m ((new_step ok h hc (Cl.of ih) m).mpr e)
  · intro k
    have : Conn (colr n L) d.p0 q ∧ Conn (colr n (paintL n L (d.M.map (·.1)) c)) d.p0 q := by
      induction k with
      | refl => exact ⟨.refl, .refl⟩
      | step _ m e ih => exact ⟨.step ih.1 m e, .step ih.2 m ((new_step ok h hc (Cl.of ih.1) m).mp e)⟩
    exact this.2
theorem new_cl (q : Pt) : Cl (colr n (paintL n L (d.M.map (·.1)) c)) n d.p0 q ↔ Cl (colr n L) n d.p0 q :=
  ⟨fun ⟨r, k, e⟩ => ⟨r, (new_conn ok h hc r).mp k, e⟩, fun ⟨r, k, e⟩ => ⟨r, (new_conn ok h hc r).mpr k, e⟩⟩
theorem new_dif {k : Pt} (z : Cl (colr n L) n d.p0 k) : dif (colr n (paintL n L (d.M.map (·.1)) c)) k = dif (colr n L) k := by
  unfold dif
  congr 1
  refine List.filter_congr fun q hq => ?_
  have := new_step ok h hc z hq
  exact decide_eq_decide.mpr (not_congr this.symm)
/-- the painted class is a part of the painted carpet -/
theorem new_part {d' : PD} (h' : PDok n (paintL n L (d.M.map (·.1)) c) d') (hp : low n d.p0 ∈ d'.M.map (·.1)) :
    d'.M.length = d.M.length ∧ d'.b = d.b ∧ colr n (paintL n L (d.M.map (·.1)) c) d'.p0 = c ∧ (d'.bas = [] ↔ d.bas = []) := by
  have hx := h'.cls ok hp
  have pg := per ok (paintL n L (d.M.map (·.1)) c)
  have mem : ∀ q, low n q ∈ d'.M.map (·.1) ↔ low n q ∈ d.M.map (·.1) := fun q => by
    rw [h'.df.mem ok, h.df.mem ok, ← new_cl ok h hc q]
    exact ⟨fun z => (hx.symm ok.nv pg).trans ok.nv pg z, fun z => hx.trans ok.nv pg z⟩
  have mem2 : ∀ k, k ∈ d'.M.map (·.1) ↔ k ∈ d.M.map (·.1) := fun k => by
    constructor
    · intro z
      have l := (h'.df.key ok z).2
      have := (mem k).mp (by rw [l]; exact z)
      rwa [l] at this
    · intro z
      have l := (h.df.key ok z).2
      have := (mem k).mpr (by rw [l]; exact z)
      rwa [l] at this
  have pm := perm_same h'.df.nod h.df.nod mem2
  have hlen := pm.length_eq
  rw [List.length_map, List.length_map] at hlen
  refine ⟨hlen, ?_, ?_, ?_⟩
  · rw [h'.df.border ok, h.df.border ok, perm_sum (pm.map _)]
    congr 1
    refine List.map_congr_left fun k hk => new_dif ok h hc ?_
    have l := (h.df.key ok hk).2
    exact (h.df.mem ok k).mp (by rw [l]; exact hk)
  · have := hx.col ok.nv pg
    rw [← this]
    exact paint_in h ok c Cl.refl
  · have nn : ∀ {L : List Nat} {d : PD}, PDok n L d → (d.bas = [] ↔ d.S = []) := fun {L d} h => by
      rw [h.bas.nil]
      constructor
      · intro z
        cases e : d.S with
        | nil => rfl
        | cons s S =>
          have hs : s ∈ d.S := by rw [e]; exact List.mem_cons_self ..
          exact absurd (z s hs) (h.df.sh s hs).1
      · intro z p hp
        rw [z] at hp; cases hp
    rw [nn h', nn h, h'.df.loops ok, h.df.loops ok]
    constructor
    · intro z u v cu cv e
      exact z.cl ok.nv pg hx u v ((new_conn ok h hc u).mpr cu) ((new_conn ok h hc v).mpr cv) e
    · intro z
      have z2 : NoLoop (colr n (paintL n L (d.M.map (·.1)) c)) n d.p0 := fun u v cu cv e => z u v ((new_conn ok h hc u).mp cu) ((new_conn ok h hc v).mp cv) e
      exact z2.cl ok.nv pg (hx.symm ok.nv pg)
end
/-! ### all parts painted with one colour -/
/-- what holds while the parts of (n, L) are painted with c: the carpet is (m, X) -/
structure Painted (n : T3) (L : List Nat) (c : Nat) (done : List Pt) (m : T3) (X : List Nat) : Prop where
  ex : Exact m X
  sub : ∀ t, InL n t → InL m t
  par : ∀ p, ∀ q ∈ nbs p, colr n L q = colr n L p → colr m X q = colr m X p
  done : ∀ k ∈ done, colr m X k = c
theorem Painted.start {n : T3} {L : List Nat} (c : Nat) (h : Exact n L) : Painted n L c [] n L := ⟨h, fun _ l => l, fun _ _ _ e => e, fun _ h => by cases h⟩
/-- a key of d has the colour of d's start -/
theorem Painted.key {n m : T3} {L X : List Nat} {c : Nat} {done : List Pt} {d : PD} (ok : NOk n) (h : Painted n L c done m X) (hd : PDok n L d) {k : Pt} (hk : k ∈ d.M.map (·.1)) : Cl (colr m X) m d.p0 k := by
  have l := (hd.df.key ok hk).2
  obtain ⟨r, cr, e⟩ := (hd.df.mem ok k).mp (by rw [l]; exact hk)
  refine ⟨r, cr.mono h.par, ?_⟩
  exact (low_iff h.ex.tok.net.nv).mpr (h.sub _ ((low_iff ok.nv).mp e))
theorem Painted.skip {n m : T3} {L X : List Nat} {c : Nat} {done : List Pt} {d : PD} (ok : NOk n) (h : Painted n L c done m X) (hd : PDok n L d) (e : colr m X d.p0 = c) : Painted n L c (done ++ d.M.map (·.1)) m X :=
  ⟨h.ex, h.sub, h.par, fun k hk => by
    rcases List.mem_append.mp hk with z | z
    · exact h.done k z
    · rw [(h.key ok hd z).col h.ex.tok.net.nv (per h.ex.tok.net X)]; exact e⟩
theorem Painted.step {n m m' : T3} {L X : List Nat} {c : Nat} {done : List Pt} {d d2 : PD} (ok : NOk n) (h : Painted n L c done m X) (hd : PDok n L d) (h2 : PDok m X d2) (hp : low m d.p0 ∈ d2.M.map (·.1)) (mok : NOk m') (hk : KeptR m (paintL m X (d2.M.map (·.1)) c) m') :
    Painted n L c (done ++ d.M.map (·.1)) m' (reText m (paintL m X (d2.M.map (·.1)) c) m') := by
  have mn := h.ex.tok.net
  have hx := h2.cls mn hp
  have pm := per mn X
  have rc : ∀ p, colr m' (reText m (paintL m X (d2.M.map (·.1)) c) m') p = colr m (paintL m X (d2.M.map (·.1)) c) p := re_colr mn mok hk
  have step1 : ∀ p, colr m X p = c → colr m (paintL m X (d2.M.map (·.1)) c) p = c := fun p e => by
    by_cases z : Cl (colr m X) m d2.p0 p
    · exact paint_in h2 mn c z
    · rw [paint_out h2 mn c z]; exact e
  refine ⟨re_exact mn mok hk, fun t l => ((kept_iff mn hk).2 t).mpr (per mn _ t (h.sub t l)), fun p q hq e => ?_, fun k hk' => ?_⟩
  · rw [rc, rc]
    have e2 := h.par p q hq e
    by_cases z : Cl (colr m X) m d2.p0 p
    · rw [paint_in h2 mn c z, paint_in h2 mn c (z.trans mn.nv pm (Cl.of (Conn.one hq e2)))]
    · rw [paint_out h2 mn c z, paint_out h2 mn c (fun y => z (y.trans mn.nv pm (Cl.of (Conn.one (nbs_symm hq) e2.symm)))), e2]
  · rw [rc]
    rcases List.mem_append.mp hk' with z | z
    · exact step1 k (h.done k z)
    · exact paint_in h2 mn c (hx.trans mn.nv pm (h.key ok hd z))
theorem one_net : NOk (1, 0, 1) := ⟨by decide, by decide, by decide, by decide, by decide⟩
/-- at the end all is of one colour -/
theorem Painted.fin {n m : T3} {L X : List Nat} {c : Nat} {done : List Pt} (ok : NOk n) (h : Painted n L c done m X) (all : ∀ k ∈ cellL n, k ∈ done) : m = (1, 0, 1) ∧ X = [c] := by
  have mn := h.ex.tok.net
  have ac : ∀ p, colr m X p = c := fun p => by
    have l := (low_iff mn.nv).mpr (h.sub _ (low_diff ok.nv p))
    rw [colr_low l]
    exact h.done _ (all _ (low_cell ok p))
  have hm : m = (1, 0, 1) := lat_uniq mn.nv one_net.nv fun t => ⟨fun _ => ⟨t.1, t.2, by simp⟩, fun _ => h.ex.all t fun p => by rw [ac, ac]⟩
  subst hm
  refine ⟨rfl, ?_⟩
  have hl := h.ex.tok.len
  match X, hl with
  | [x], _ =>
    have := ac (0, 0)
    exact congrArg (fun z => [z]) this
/-- Carpet.plain -/
theorem plain_net {m : T3} {c : Nat} (mok : NOk m) (h : KeptR (1, 0, 1) [c] m) : m = (1, 0, 1) ∧ reText (1, 0, 1) [c] m = [c] :=
  exact_same ⟨⟨one_net, rfl⟩, fun t _ => ⟨t.1, t.2, by simp⟩⟩ mok h
end Cp
set_option Elab.async false
set_option linter.all false
set_option maxRecDepth 100000
set_option maxHeartbeats 2000000
/-! F23: touching. -/
namespace Cp
open PySem PySem.Spec PyProof.Rows L2
open SG (ps_forG pe_lcG ps_setLcG tForG tLcG)
local macro_rules | `(tactic| tm_at "fact") => `(tactic| first
  | assumption
  | (apply Same.up; · assumption
     tm_at "fact")
  | (apply Same.upS; · assumption
     tm_at "fact")
  | (apply Same.upL; · assumption
     tm_at "fact")
  | (apply sq_of; tm_at "fact")
  | (apply sl_of; tm_at "fact")
  | (apply Chg.up; · assumption
     · tm_at "fact"
     · exact fun z => nomatch z)
  | (apply Chg.upS; · assumption
     · tm_at "fact"
     · exact fun _ z => nomatch z
     · exact fun _ _ z => nomatch z))
local macro_rules | `(tactic| tm_at "same") => `(tactic| first
  | assumption
  | exact Same.refl _
  | (refine Same.trans ?_ ?_; rotate_left; · assumption
     tm_at "same"))
local macro_rules | `(tactic| tm_at "sx1") => `(tactic| with_reducible first
  | refine w_var rfl ?_
  | refine w_c ?_
  | refine w_op ?_
  | refine w_seq ?_
  | refine w_asg ?_
  | refine w_gname ?_
  | refine w_ret ?_
  | refine w_nil ?_
  | refine w_cons ?_
  | refine w_tup ?_
  | refine w_lst ?_
  | refine w_cb ?_
  | refine w_callR ?_
  | refine w_i0 ?_
  | refine w_gcons ?_
  | refine w_gnil ?_
  | refine w_test ?_
  | refine w_not ?_
  | refine w_ifs ?_
  | refine w_if ?_
  | refine w_expr ?_
  | refine w_eqI ?_
  | refine w_neI ?_
  | refine w_eqS ?_
  | refine w_neS ?_
  | refine w_or ?_
  | refine w_and ?_
  | refine w_par3 ?_
  | refine w_andV ?_
  | refine w_notV ?_
  | refine w_lcS ?_
  | refine w_forE ?_
  | refine w_m1 ?_
  | refine w_forL ?_
  | refine w_forR1 ?_
  | refine w_isN ?_
  | refine w_notN ?_
  | refine w_fld ?_
  | refine w_methR ?_
  | refine w_propR ?_
  | refine w_propA ?_
  | refine w_methA ?_
  | refine w_subA ?_
  | refine w_makeS ?_
  | refine w_fldS ?_
  | refine w_chain ?_
  | refine w_orV ?_
  | refine w_next ?_
  | refine w_tB ?_
  | refine w_lcL ?_
  | refine w_lcT ?_
  | refine w_lcR1 ?_
  | refine w_lcR2 ?_
  | refine w_turn ?_
  | refine w_yes ?_
  | refine w_par ?_
  | refine w_uI ?_
  | refine w_un ?_
  | refine w_one ?_)
local macro_rules | `(tactic| tm_at "at") => `(tactic| first | exact rfl | exact atI_nat rfl)
local macro_rules | `(tactic| tm_at "ix") => `(tactic| first
  | (with_reducible apply w_ixT; · tm_at "fact"
     · tm_at "at")
  | (with_reducible apply w_ixL; · tm_at "fact"
     · tm_at "at")
  | (with_reducible apply w_gtup; · tm_at "fact"
     · exact rfl))
local macro_rules | `(tactic| tm_at "sx") => `(tactic| repeat (first | tm_at "sx1" | tm_at "ix"))
def spD (x : Nat × Nat) : PyData := .tuple [.str (one1 x.1), .str (one1 x.2)]
theorem spD_depth (p : Nat × Nat) : (spD p).depth = 1 := by simp [spD, PyData.depth, PyData.depthAll]
def Sm (p : Nat × Nat) : Prop := p.1 < 0x110000 ∧ p.2 < 0x110000
theorem one1_ok {c : Nat} (h : c < 0x110000) : PyData.strOk (one1 c) = true := by simp [PyData.strOk, h]
theorem spD_shaped {p : Nat × Nat} (h : Sm p) : SeqAt.shaped (spD p) = true := by
  show ((spD p).canLay0 && decide ((spD p).depth ≤ 64)) = true
  rw [spD_depth]; simp [spD, PyData.canLay0, PyData.canLayAll0, one1_ok h.1, one1_ok h.2]
theorem spDs_lay : ∀ ps : List (Nat × Nat), (∀ p ∈ ps, Sm p) → PyData.canLayAll0 (ps.map spD) = true
  | [], _ => by simp [PyData.canLayAll0]
  | p :: ps, h => by
    have h1 := h p (List.mem_cons_self ..)
    simp [PyData.canLayAll0, spDs_lay ps (fun q hq => h q (List.mem_cons_of_mem _ hq)), spD, PyData.canLay0, one1_ok h1.1, one1_ok h1.2]
theorem spDs_depth : ∀ ps : List (Nat × Nat), PyData.depthAll (ps.map spD) ≤ 1
  | [] => by simp [PyData.depthAll]
  | p :: ps => by
    have h1 := spDs_depth ps
    have h2 := spD_depth p
    simp only [List.map_cons, PyData.depthAll]
    omega
theorem spDs_shaped (ps : List (Nat × Nat)) (h : ∀ p ∈ ps, Sm p) : SeqAt.shaped (.list (ps.map spD)) = true := by
  have h1 := spDs_depth ps
  have h2 : PyData.depth (.list (ps.map spD)) ≤ 64 := by
    simp only [PyData.depth]
    omega
  show (PyData.canLay0 (.list (ps.map spD)) && decide (PyData.depth (.list (ps.map spD)) ≤ 64)) = true
  rw [Bool.and_eq_true]
  exact ⟨by simp only [PyData.canLay0]; exact spDs_lay ps h, decide_eq_true h2⟩
/-- refs to pairs of texts -/
def SPs (H : Hp) : List V → List (Nat × Nat) → Prop := Paired fun v x => ∃ b, v = .ref b ∧ H b = some (.tup [.str (one1 x.1), .str (one1 x.2)])
theorem SPs.same {H H' : Hp} {vs : List V} {ps : List (Nat × Nat)} (s : Same H H') (h : SPs H vs ps) : SPs H' vs ps := Paired.mapP h fun _ _ ⟨b, e, hb⟩ => ⟨b, e, s _ _ hb⟩
theorem SPs.chg {H H' : Hp} {p : Addr} {o : HO} {vs : List V} {ps : List (Nat × Nat)} (c : Chg p o H H') (d : ∀ xs, HO.tup xs ≠ o) (h : SPs H vs ps) : SPs H' vs ps := Paired.mapP h fun _ _ ⟨b, e, hb⟩ => ⟨b, e, c.up hb (d _)⟩
theorem SPs.snoc {H : Hp} {b : Addr} {x : Nat × Nat} {vs : List V} {ps : List (Nat × Nat)} (h : SPs H vs ps) (hb : H b = some (.tup [.str (one1 x.1), .str (one1 x.2)])) : SPs H (vs ++ [.ref b]) (ps ++ [x]) := by
  induction h with
  | nil => exact .cons ⟨b, rfl, hb⟩ .nil
  | cons r _ ih => exact .cons r ih
theorem SPs.dps {K : PySem.W.Frag} {H : Hp} {vs : List V} {ps : List (Nat × Nat)} (h : SPs H vs ps) : DpAll K H vs (ps.map spD) := by
  induction h with
  | nil => exact .nil
  | cons r _ ih => obtain ⟨b, e, hb⟩ := r; subst e; exact .cons (.tup (sq_of hb) (.cons (.str _) (.cons (.str _) .nil))) ih
theorem one1_lt (a b : Nat) : decide ((one1 a).cps.toList < (one1 b).cps.toList) = decide (a < b) := by
  refine decide_eq_decide.mpr ?_
  show [a] < [b] ↔ a < b
  constructor
  · intro h
    cases h with
    | rel h => exact h
    | cons h => cases h
  · exact fun h => .rel h
section
variable {P : Program} {w : World} {K : PySem.W.Frag} {mg : Str → Option Value} {base : Heap}
theorem colr_small {n : T3} {L : List Nat} (h : ∀ c ∈ L, c ∈ LET) (p : Pt) : colr n L p < 0x110000 := by
  unfold colr
  rw [List.getD_eq_getElem?_getD]
  cases e : L[ixOf n p]? with
  | none => decide
  | some c =>
    have := h c (List.mem_of_getElem? e)
    have h2 : ∀ c ∈ LET, c < 0x110000 := by decide
    exact h2 c this
def NoLt (n : T3) (L : List Nat) (ps : List Pt) : Prop := ∀ p ∈ ps, ∀ q ∈ nbs p, ¬ colr n L p < colr n L q
def sp_touching (K : PySem.W.Frag) : Sp := fun vs H Q _ => ∃ (o C : Addr) (n : T3) (L : List Nat), vs = [.ref o] ∧ CarC K C ∧ CarV K H o C n L ∧ (∀ c ∈ L, c ∈ LET) ∧
  ∀ l xs H', Same H H' → H' l = some (.lst xs) → xs.length ≤ 16000 → (xs = [] ↔ NoLt n L (cellL n)) → Q (.ref l) H'
theorem ok_touching (T : Tx K mg) : FnR P w K mg base CX0 5 (He.ga K "touching") (sp_touching K) := by
  refine fnr_of T.f_touching sc_touching (fun _ _ _ _ _ _ us hl => match us, hl with | [_], _ => rfl) (fun vs H Q E h => by obtain ⟨_, _, _, _, rfl, _⟩ := h; rfl) (fun cdv A outer s H vs Q E hr h => ?_)
  have nd := sc_touching.nd
  refine ⟨_, (pss_cons (ps_set (i := 1) nd rfl (Or.inl rfl) (pe_lstS pa_nil))
    (pss_cons (ps_forG rfl hr (pgi_net T hr (pe_propA (pv 0) T.pr_net (ok_Carpet_net T) (hr.mono (by decide)))) (pg_name (i := 2) nd rfl (Or.inl rfl)) (pss_one (ps_for PassesOwn.never rfl (pi_list (pe_callR (ok_neighbours T) (hr.mono (by decide)) rfl T.g_neighbours T.k_neighbours (pa_cons (pv 2) pa_nil))) (pg_name (i := 3) nd rfl (Or.inl rfl)) (pss_cons (ps_set (i := 4) nd rfl (Or.inl rfl) (pe_tupS (pa_cons (pe_methA (pv 0) T.me_seen (ok_Carpet_seen T) (hr.mono (by decide)) (pa_cons (pv 2) pa_nil)) (pa_cons (pe_methA (pv 0) T.me_seen (ok_Carpet_seen T) (hr.mono (by decide)) (pa_cons (pv 3) pa_nil)) pa_nil))))
    (pss_one (ps_if (PW.pt (pw_and (pt_cmpR op_lt_str (pe_ix ix_tup (pv 4) pe_int (fun _ _ => rfl)) (pe_ix ix_tup (pv 4) pe_int (fun _ _ => rfl)) (nomark _)) (pw_and1 (pt_cmpR (op_notInD (hu65 hr)) (pv 4) (pv 1) (by with_unfolding_all rfl))))) (pss_one (ps_expr (pe_bm PySem.F.plainAttrs_list PySem.F.slot_list_append PySem.F.type_list_append mt_append (pv 1) (pa_cons (pv 4) pa_nil)))) pss_nil))))))
    (pss_one (ps_ret (pe_callB cr_sortedSS rfl T.b_sorted bo_sorted (pa_cons (pv 1) pa_nil)))))), ?_⟩
  try dsimp only [cxOf]
  obtain ⟨o, C, n, L, rfl, hC, hc, hL, q⟩ := h
  obtain ⟨dx, nt, ho, hn, ok⟩ := id hc
  have hsl := sizeLine_eq
  have hsm := ok.net.sz
  have hnat := ok.net.nat
  have hcl : (cellL n).length ≤ 4000 := by rw [cellL_len]; omega
  tm_at "sx"
  refine ⟨Nat.zero_le _, fun fl H1 nf s1 e1 => ?_⟩
  tm_at "sx"
  show tPropA (CarC K) (sp_Carpet_net K) (tVar 0) _ H1 _
  refine ⟨_, rfl, o, C, dx, _, rfl, hC, s1 _ _ ho, o, C, n, L, rfl, hC, hc.up s1, fun nt' hn' => ?_⟩
  refine ⟨nt', n, rfl, hn', ok.net, ?_⟩
  refine ⟨fun its σ H' => ∃ (dn : List Pt) (us : List V) (xs : List (Nat × Nat)) (o2 o3 o4 : Option V), σ = [some (.ref o), some (.ref fl), o2, o3, o4] ∧ cellL n = dn ++ its ∧ Same H H' ∧ H' fl = some (.lst us) ∧ SPs H' us xs ∧ (∀ p ∈ xs, Sm p) ∧ xs.length ≤ 4 * dn.length ∧ (xs = [] ↔ NoLt n L dn),
    ⟨[], [], [], none, none, none, rfl, rfl, s1, e1, .nil, (fun _ h => by cases h), Nat.le_refl _, ⟨fun _ _ h => (by cases h), fun _ => rfl⟩⟩, fun σ H' hW => ?_, ?_⟩
  · obtain ⟨dn, us, xs, o2, o3, o4, rfl, hcell, sI, hfl, hxs, hsm', hle, hiff⟩ := hW
    obtain rfl : dn = cellL n := by rw [hcell]; simp
    have hul : us.length = xs.length := Paired.length hxs
    tm_at "sx"
    refine ⟨fl, us, rfl, sl_of hfl, fun x hx => ?_, fun ys p H2 hp np s2 e2 => ?_⟩
    · obtain ⟨i, hi, rfl⟩ := List.getElem_of_mem hx
      have : ∀ {us : List V} {xs : List (Nat × Nat)}, SPs H' us xs → ∀ x ∈ us, ∃ t i j, x = V.ref t ∧ H' t = some (.tup [.str i, .str j]) := fun {us xs} h => by
        induction h with
        | nil => intro x hx; cases hx
        | cons r _ ih =>
          intro x hx
          rcases List.mem_cons.mp hx with rfl | hx
          · obtain ⟨b, e, hb⟩ := r; exact ⟨b, _, _, e, hb⟩
          · exact ih x hx
      exact this hxs _ hx
    · refine q p ys H2 (Same.trans sI s2) e2 (by rw [hp.length_eq]; omega) ?_
      rw [← hiff, ← List.length_eq_zero_iff, ← List.length_eq_zero_iff, hp.length_eq, hul]
  · rintro px py r σ H' ⟨dn, us, xs, o2, o3, o4, rfl, hcell, sI, hfl, hxs, hsm', hle, hiff⟩ t nt
    have s3 : Same H' (upd H' t (.tup [.int px, .int py])) := same_upd nt
    have e3 : upd H' t (.tup [.int px, .int py]) t = some (tup2 (px, py)) := upd_same
    generalize upd H' t (.tup [.int px, .int py]) = H3 at *
    have hdl : dn.length ≤ 4000 := by
      have := congrArg List.length hcell
      rw [List.length_append] at this
      omega
    tm_at "sx"
    refine ⟨t, (px, py), rfl, e3, fun nl ns H4 nn s4 e4 p4 => ?_⟩
    refine ⟨nl, rfl, ⟨_, sl_of e4⟩, ?_⟩
    have nfl : nl ≠ fl := fun z => by subst z; rw [s3 _ _ hfl] at nn; cases nn
    have hfl3 := s4 _ _ (s3 _ _ hfl)
    refine for_list (xs := ns) (fun i σ H' => ∃ (us : List V) (xs : List (Nat × Nat)) (o3 o4 : Option V), σ = [some (.ref o), some (.ref fl), some (.ref t), o3, o4] ∧ Same H H' ∧ H' fl = some (.lst us) ∧ SPs H' us xs ∧ (∀ p ∈ xs, Sm p) ∧ H' nl = some (.lst ns) ∧ Ps H' ns (nbs (px, py)) ∧ H' t = some (tup2 (px, py)) ∧ xs.length ≤ 4 * dn.length + i ∧ (xs = [] ↔ NoLt n L dn ∧ ∀ q ∈ (nbs (px, py)).take i, ¬ colr n L (px, py) < colr n L q))
      ⟨us, xs, _, _, rfl, Same.trans sI (Same.trans s3 s4), hfl3, hxs.same (Same.trans s3 s4), hsm', e4, p4, s4 _ _ e3, hle, hiff.trans ⟨fun h => ⟨h, fun q hq => by simp at hq⟩, fun h => h.1⟩⟩ (fun i σ H' _ hI => ?_) (fun i x σ H' hx hI => ?_) (fun σ H' hI => ?_)
    · obtain ⟨_, _, _, _, _, _, _, _, _, h, _⟩ := hI
      exact sl_of h
    · obtain ⟨us, xs, o3, o4, rfl, sI, hfl, hxs, hsm', hnl, pI, ht, hle, hiff⟩ := hI
      obtain ⟨bq, qq, rfl, hbq, hqi⟩ := pI.at hx
      have hi4 : i < 4 := (List.getElem?_eq_some_iff.mp hqi).1
      tm_at "sx"
      refine ⟨o, C, dx, _, rfl, hC, sI _ _ ho, rfl, ?_⟩
      tm_at "sx"
      refine ⟨o, t, C, n, L, (px, py), rfl, hC, hc.up sI, ht, fun H5 s5 => ?_⟩
      tm_at "sx"
      refine ⟨o, C, dx, _, rfl, hC, s5 _ _ (sI _ _ ho), rfl, ?_⟩
      tm_at "sx"
      refine ⟨o, bq, C, n, L, qq, rfl, hC, (hc.up sI).up s5, s5 _ _ hbq, fun H6 s6 => ?_⟩
      tm_at "sx"
      refine ⟨by show 2 ≤ sizeLine; decide, fun pr H7 npr s7 e7 => ?_⟩
      tm_at "sx"
      have s57 : Same H' H7 := Same.trans s5 (Same.trans s6 s7)
      refine ⟨_, _, rfl, rfl, ?_⟩
      rw [one1_lt]
      refine ⟨_, rfl, ?_⟩
      have htake : ∀ P : Prop, ((∀ q ∈ (nbs (px, py)).take (i + 1), ¬ colr n L (px, py) < colr n L q) ↔ ((∀ q ∈ (nbs (px, py)).take i, ¬ colr n L (px, py) < colr n L q) ∧ ¬ colr n L (px, py) < colr n L qq)) := fun _ => by
        rw [List.take_add_one, hqi]
        constructor
        · intro h
          exact ⟨fun q hq => h q (List.mem_append_left _ hq), h qq (List.mem_append_right _ (by simp))⟩
        · rintro ⟨h1, h2⟩ q hq
          rcases List.mem_append.mp hq with z | z
          · exact h1 q z
          · obtain rfl : q = qq := by simpa using z
            exact h2
      by_cases hlt : colr n L (px, py) < colr n L qq
      · rw [decide_eq_true hlt]
        refine w_tt ?_
        tm_at "sx"
        have hxs7 := hxs.same s57
        refine ⟨spD (colr n L (px, py), colr n L qq), xs.map spD, .tup (sq_of e7) (.cons (.str _) (.cons (.str _) .nil)), .lst (sl_of (s57 _ _ hfl)) hxs7.dps, spD_shaped ⟨colr_small hL _, colr_small hL _⟩, spDs_shaped _ hsm', ?_⟩
        refine ⟨_, rfl, ?_⟩
        have hbad : ¬ (NoLt n L dn ∧ ∀ q ∈ (nbs (px, py)).take (i + 1), ¬ colr n L (px, py) < colr n L q) := fun h => ((htake True).mp h.2).2 hlt
        cases hany : (xs.map spD).any (fun z => PyData.eqv z (spD (colr n L (px, py), colr n L qq))) with
        | true =>
          refine w_ff ?_
          have hne : xs ≠ [] := fun z => by rw [z] at hany; cases hany
          exact ⟨us, xs, _, _, rfl, Same.trans sI s57, s57 _ _ hfl, hxs7, hsm', s57 _ _ hnl, pI.same s57, s57 _ _ ht, by omega, ⟨fun z => absurd z hne, fun z => absurd z hbad⟩⟩
        | false =>
          refine w_tt ?_
          tm_at "sx"
          have hul : us.length = xs.length := Paired.length hxs
          refine ⟨_, rfl, .inl ⟨rfl, _, sl_of (s57 _ _ hfl)⟩, ?_⟩
          tm_at "sx"
          refine app_of (s57 _ _ hfl) (by omega) fun H8 k8 e8 => ?_
          have hnf : H fl = none := nf
          have hsmN : ∀ p ∈ xs ++ [(colr n L (px, py), colr n L qq)], Sm p := fun p hp => by
            rcases List.mem_append.mp hp with z | z
            · exact hsm' p z
            · obtain rfl : p = (colr n L (px, py), colr n L qq) := by simpa using z
              exact ⟨colr_small hL _, colr_small hL _⟩
          refine ⟨us ++ [.ref pr], xs ++ [(colr n L (px, py), colr n L qq)], _, _, rfl, chg_same hnf (Same.trans sI s57) k8, e8, (hxs7.chg k8 (fun _ z => nomatch z)).snoc (k8.up e7 (fun z => nomatch z)), hsmN, k8.2 _ _ nfl (s57 _ _ hnl), (pI.same s57).chg k8 (fun _ z => nomatch z), k8.up (s57 _ _ ht) (fun z => nomatch z), by rw [List.length_append]; show xs.length + 1 ≤ _; omega, ⟨fun z => absurd z (by simp), fun z => absurd z hbad⟩⟩
      · rw [decide_eq_false hlt]
        refine w_ff (w_ff ?_)
        exact ⟨us, xs, _, _, rfl, Same.trans sI s57, s57 _ _ hfl, hxs.same s57, hsm', s57 _ _ hnl, pI.same s57, s57 _ _ ht, by omega, hiff.trans ⟨fun h => ⟨h.1, (htake True).mpr ⟨h.2, hlt⟩⟩, fun h => ⟨h.1, ((htake True).mp h.2).1⟩⟩⟩
    · obtain ⟨us, xs, o3, o4, rfl, sI, hfl, hxs, hsm', hnl, pI, ht, hle, hiff⟩ := hI
      have hl4 : ns.length = 4 := pI.len
      rw [hl4] at hle hiff
      refine ⟨dn ++ [(px, py)], us, xs, _, _, _, rfl, by rw [hcell]; simp, sI, hfl, hxs, hsm', by rw [List.length_append]; show xs.length ≤ 4 * (dn.length + 1); omega, hiff.trans ⟨fun h p hp => ?_, fun h => ⟨fun p hp => h p (List.mem_append_left _ hp), fun q hq => h (px, py) (List.mem_append_right _ (by simp)) q (List.mem_of_mem_take hq)⟩⟩⟩
      rcases List.mem_append.mp hp with z | z
      · exact h.1 p z
      · obtain rfl : p = (px, py) := by simpa using z
        exact fun q hq => h.2 q (by rw [List.take_of_length_le (Nat.le_of_eq (nbs_len _))]; exact hq)
end
end Cp
set_option Elab.async false
set_option linter.all false
set_option maxRecDepth 100000
set_option maxHeartbeats 2000000
/-! F24: the law's own places. -/
namespace Cp
open PySem PySem.Spec PyProof.Rows L2
local macro_rules | `(tactic| tm_at "fact") => `(tactic| first
  | assumption
  | (apply Same.up; · assumption
     tm_at "fact")
  | (apply Same.upS; · assumption
     tm_at "fact")
  | (apply Same.upL; · assumption
     tm_at "fact")
  | (apply sq_of; tm_at "fact")
  | (apply sl_of; tm_at "fact")
  | (apply Chg.up; · assumption
     · tm_at "fact"
     · exact fun z => nomatch z)
  | (apply Chg.upS; · assumption
     · tm_at "fact"
     · exact fun _ z => nomatch z
     · exact fun _ _ z => nomatch z))
local macro_rules | `(tactic| tm_at "same") => `(tactic| first
  | assumption
  | exact Same.refl _
  | (refine Same.trans ?_ ?_; rotate_left; · assumption
     tm_at "same"))
local macro_rules | `(tactic| tm_at "sx1") => `(tactic| with_reducible first
  | refine w_var rfl ?_
  | refine w_c ?_
  | refine w_op ?_
  | refine w_seq ?_
  | refine w_asg ?_
  | refine w_gname ?_
  | refine w_ret ?_
  | refine w_nil ?_
  | refine w_cons ?_
  | refine w_tup ?_
  | refine w_lst ?_
  | refine w_cb ?_
  | refine w_callR ?_
  | refine w_i0 ?_
  | refine w_gcons ?_
  | refine w_gnil ?_
  | refine w_test ?_
  | refine w_not ?_
  | refine w_ifs ?_
  | refine w_if ?_
  | refine w_expr ?_
  | refine w_eqI ?_
  | refine w_neI ?_
  | refine w_eqS ?_
  | refine w_neS ?_
  | refine w_or ?_
  | refine w_and ?_
  | refine w_par3 ?_
  | refine w_andV ?_
  | refine w_notV ?_
  | refine w_lcS ?_
  | refine w_forE ?_
  | refine w_m1 ?_
  | refine w_forL ?_
  | refine w_forR1 ?_
  | refine w_isN ?_
  | refine w_notN ?_
  | refine w_fld ?_
  | refine w_methR ?_
  | refine w_propR ?_
  | refine w_propA ?_
  | refine w_methA ?_
  | refine w_subA ?_
  | refine w_makeS ?_
  | refine w_fldS ?_
  | refine w_chain ?_
  | refine w_orV ?_
  | refine w_next ?_
  | refine w_tB ?_
  | refine w_lcL ?_
  | refine w_lcT ?_
  | refine w_lcR1 ?_
  | refine w_lcR2 ?_
  | refine w_turn ?_
  | refine w_yes ?_
  | refine w_par ?_
  | refine w_uI ?_
  | refine w_un ?_
  | refine w_one ?_)
local macro_rules | `(tactic| tm_at "at") => `(tactic| first | exact rfl | exact atI_nat rfl)
local macro_rules | `(tactic| tm_at "ix") => `(tactic| first
  | (with_reducible apply w_ixT; · tm_at "fact"
     · tm_at "at")
  | (with_reducible apply w_ixL; · tm_at "fact"
     · tm_at "at")
  | (with_reducible apply w_gtup; · tm_at "fact"
     · exact rfl))
local macro_rules | `(tactic| tm_at "sx") => `(tactic| repeat (first | tm_at "sx1" | tm_at "ix"))
theorem cell_get {n : T3} (ok : NOk n) {i : Nat} (hi : i < n.1.toNat * n.2.2.toNat) : (cellL n)[i]? = some ((i : Int) % n.1, (i : Int) / n.1) := by
  have a1 := ok.a1
  have := rowsTo_at (A := n.1.toNat) (C := n.2.2.toNat) (x := i % n.1.toNat) (y := i / n.1.toNat) (Nat.mod_lt _ (by omega)) (Nat.div_lt_of_lt_mul hi)
  rw [Nat.mul_comm, Nat.div_add_mod, rowsTo_all] at this
  unfold cellL
  rw [this]
  have ea : n.1 = ((n.1.toNat : Nat) : Int) := by omega
  congr 1
  refine Prod.ext ?_ ?_
  · show ((i % n.1.toNat : Nat) : Int) = (i : Int) % n.1
    rw [Int.natCast_emod, ← ea]
  · show ((i / n.1.toNat : Nat) : Int) = (i : Int) / n.1
    rw [Int.natCast_ediv, ← ea]
section
variable {P : Program} {w : World} {K : PySem.W.Frag} {mg : Str → Option Value} {base : Heap}
abbrev rLenK (K : PySem.W.Frag) : List V → Hp → VK → Prop := fun xs H Q => ∃ x n, xs = [x] ∧ LenV K x H n ∧ Q (.int n) H
def sp__law_low (K : PySem.W.Frag) : Sp := fun vs H Q _ => ∃ (t a : Addr) (n : T3) (p : Pt), vs = [.ref t, .ref a] ∧ H t = some (tup3 n) ∧ NW n p ∧ H a = some (tup2 p) ∧ ∀ u H', Same H H' → H' u = some (tup2 (low n p)) → Q (.ref u) H'
theorem ok__law_low (T : Tx K mg) : FnR P w K mg base CX0 1 (He.ga K "_law_low") (sp__law_low K) := by
  refine fnr_of T.f__law_low sc__law_low (fun _ _ _ _ _ _ us hl => match us, hl with | [_, _], _ => rfl) (fun vs H Q E h => by obtain ⟨_, _, _, _, rfl, _⟩ := h; rfl) (fun cdv A outer s H vs Q E hr h => ?_)
  have nd := sc__law_low.nd
  refine ⟨_, (pss_cons (ps_set (i := 2) nd rfl (Or.inl rfl) (pe_op op_fdiv (pe_ix ix_tup (pv 1) pe_int (fun _ _ => rfl)) (pe_ix ix_tup (pv 0) pe_int (fun _ _ => rfl))))
    (pss_one (ps_ret (pe_tupS (pa_cons (pe_op op_mod (pe_op op_sub (pe_ix ix_tup (pv 1) pe_int (fun _ _ => rfl)) (pe_op op_mul (pv 2) (pe_ix ix_tup (pv 0) pe_int (fun _ _ => rfl)))) (pe_ix ix_tup (pv 0) pe_int (fun _ _ => rfl))) (pa_cons (pe_op op_sub (pe_ix ix_tup (pv 1) pe_int (fun _ _ => rfl)) (pe_op op_mul (pv 2) (pe_ix ix_tup (pv 0) pe_int (fun _ _ => rfl)))) pa_nil)))))), ?_⟩
  try dsimp only [cxOf]
  obtain ⟨t, a, n, p, rfl, ht, ok, ha, q⟩ := h
  have h1 := ok.nv.a1
  have h3 := ok.nv.b0
  have h4 := ok.nv.ba
  have h5 := ok.nv.c1
  have h6 := ok.c2
  tm_at "sx"
  refine w_iC ⟨by omega, by omega⟩ ?_
  tm_at "sx"
  have hd : -(2 ^ 60) < p.2 ∧ p.2 < 2 ^ 60 → -(2 ^ 64) < p.2 / n.2.2 ∧ p.2 / n.2.2 < 2 ^ 64 := fun ⟨u, v⟩ => by
    have e := Int.mul_ediv_add_emod p.2 n.2.2
    have e1 := Int.emod_nonneg p.2 (show n.2.2 ≠ 0 by omega)
    have e2 := Int.emod_lt_of_pos p.2 (show 0 < n.2.2 by omega)
    constructor
    · refine Int.lt_of_lt_of_le (show -(2 ^ 64) < -(2 ^ 60) - (1 : Int) by decide) ?_
      exact (Int.le_ediv_iff_mul_le (by omega)).mpr (by
        have : (-(2 ^ 60) - (1 : Int)) * n.2.2 ≤ (-(2 ^ 60) - (1 : Int)) * 1 := Int.mul_le_mul_of_nonpos_left (by decide) h5
        omega)
    · refine Int.lt_of_le_of_lt (b := 2 ^ 60) ?_ (by decide)
      exact Int.le_of_lt (Int.ediv_lt_of_lt_mul (by omega) (by
        have : (2 ^ 60 : Int) * 1 ≤ 2 ^ 60 * n.2.2 := Int.mul_le_mul_of_nonneg_left h5 (by decide)
        omega))
  refine w_iC (by rcases ok.bp with z | z; · exact .inr ⟨by omega, by omega⟩
                  · exact .inl (hd z)) ?_
  tm_at "sx"
  refine w_iC (by omega) ?_
  tm_at "sx"
  refine w_iC (.inr ⟨by omega, by omega⟩) ?_
  tm_at "sx"
  exact ⟨by show 2 ≤ sizeLine; decide, fun t' H2 _ s e => q t' H2 s e⟩
def sp__law_spots (K : PySem.W.Frag) : Sp := fun vs H Q _ => ∃ (t : Addr) (n : T3), vs = [.ref t] ∧ H t = some (tup3 n) ∧ NOk n ∧ ∀ l us H', H l = none → Same H H' → H' l = some (.lst us) → Ps H' us (cellL n) → Q (.ref l) H'
theorem ok__law_spots (T : Tx K mg) : FnR P w K mg base CX0 1 (He.ga K "_law_spots") (sp__law_spots K) := by
  refine fnr_of T.f__law_spots sc__law_spots (fun _ _ _ _ _ _ us hl => match us, hl with | [_], _ => rfl) (fun vs H Q E h => by obtain ⟨_, _, rfl, _⟩ := h; rfl) (fun cdv A outer s H vs Q E hr h => ?_)
  have nd := sc__law_spots.nd
  refine ⟨_, (pss_one (ps_ret (pe_lcR1 (own := [("_law_at", 1)]) (g := (gName 1)) rfl nd rfl T.b_range (pa_cons (pe_op op_mul (pe_ix ix_tup (pv 0) pe_int (fun _ _ => rfl)) (pe_ix ix_tup (pv 0) pe_int (fun _ _ => rfl))) pa_nil) (blkOk_by (N := N_law_spots) (sc := defScope s_law_spots) (by decide +kernel)) (fun _ _ _ _ _ => (pg_name (i := 1) nd rfl (Or.inl rfl))) (fun _ _ _ _ _ => pts_nil) (fun _ _ _ _ _ => (pe_tupS (pa_cons (pe_op op_mod (pv 1) (pe_ix (r := rIxT K) ix_tup (pv 0) pe_int (fun _ _ => rfl))) (pa_cons (pe_op op_fdiv (pv 1) (pe_ix (r := rIxT K) ix_tup (pv 0) pe_int (fun _ _ => rfl))) pa_nil))))))), ?_⟩
  try dsimp only [cxOf]
  obtain ⟨t, n, rfl, ht, ok, q⟩ := h
  have a1 := ok.a1
  have a2 := ok.a2
  have c1 := ok.c1
  have c2 := ok.c2
  have hs := ok.sz
  have hnat := ok.nat
  have hsl := sizeLine_eq
  tm_at "sx"
  refine w_iC (.inr ⟨by omega, by omega⟩) ?_
  tm_at "sx"
  have hm : n.2.2.toNat * n.1.toNat = n.1.toNat * n.2.2.toNat := Nat.mul_comm _ _
  refine ⟨n.1.toNat * n.2.2.toNat, by rw [← hm, hnat], by omega, fun i acc H' => Ps H' acc ((cellL n).take i), fun _ _ => .nil, fun D i v acc H' hi hx hD s e p => ?_, fun D acc H' hD s e p => ?_⟩
  · subst hx
    tm_at "sx"
    refine ⟨rfl, ?_⟩
    tm_at "sx"
    refine w_iC (by omega) ?_
    tm_at "sx"
    refine w_iC ⟨by omega, by omega⟩ ?_
    tm_at "sx"
    refine ⟨by show 2 ≤ sizeLine; decide, fun b H4 nb s4 e4 => ⟨s4 _ _ e, Same.trans s s4, fun H5 c s5 => ?_⟩⟩
    rw [List.take_add_one, cell_get ok hi]
    exact ((p.same s4).chg c (fun _ z => nomatch z)).app (Ps.one (p := ((i : Int) % n.1, (i : Int) / n.1)) (c.up e4 (fun z => nomatch z)))
  · have p2 : Ps H' acc ((cellL n).take (n.1.toNat * n.2.2.toNat)) := p
    rw [List.take_of_length_le (by rw [cellL_len]; omega)] at p2
    exact q D acc H' hD s e p2
def sp__law_seen (K : PySem.W.Frag) : Sp := fun vs H Q _ => ∃ (t a : Addr) (n : T3) (L : List Nat) (p : Pt), vs = [.ref t, .str (txt L), .ref a] ∧ H t = some (tup3 n) ∧ TOk n L ∧ H a = some (tup2 p) ∧ ∀ H', Same H H' → Q (.str (one1 (colr n L p))) H'
theorem ok__law_seen (T : Tx K mg) : FnR P w K mg base CX0 2 (He.ga K "_law_seen") (sp__law_seen K) := by
  refine fnr_of T.f__law_seen sc__law_seen (fun _ _ _ _ _ _ us hl => match us, hl with | [_, _, _], _ => rfl) (fun vs H Q E h => by obtain ⟨_, _, _, _, _, rfl, _⟩ := h; rfl) (fun cdv A outer s H vs Q E hr h => ?_)
  have nd := sc__law_seen.nd
  refine ⟨_, (pss_cons (ps_asg (pe_callR (ok__law_low T) (hr.mono (by decide)) rfl T.g__law_low T.k__law_low (pa_cons (pv 0) (pa_cons (pv 2) pa_nil))) (pg_tup rfl (pgs_cons (pg_name (i := 3) nd rfl (Or.inl rfl)) (pgs_cons (pg_name (i := 4) nd rfl (Or.inl rfl)) pgs_nil))))
    (pss_one (ps_ret (pe_ix ix_str (pv 1) (pe_op op_add (pe_op op_mul (pv 4) (pe_ix ix_tup (pv 0) pe_int (fun _ _ => rfl))) (pv 3)) (fun _ _ => rfl))))), ?_⟩
  try dsimp only [cxOf]
  obtain ⟨t, a, n, L, p, rfl, ht, ok, ha, q⟩ := h
  tm_at "sx"
  refine ⟨t, a, n, p, rfl, ht, ok.net.nw p, ha, fun b H1 s1 e1 => ?_⟩
  tm_at "sx"
  obtain ⟨h1, h2, h3, h4⟩ := low_rng ok.net p
  have a2 := ok.net.a2
  refine w_iC (.inr ⟨by omega, by omega⟩) ?_
  tm_at "sx"
  obtain ⟨i1, i2⟩ := ix_rng ok.net p
  have hs := ok.small
  have hl := ok.len
  have hlt : ixOf n p < L.length := by omega
  refine ⟨_, _, colr n L p, rfl, rfl, ?_, ?_, q _ s1⟩
  · show L.toArray.size ≤ sizeLine
    have := sizeLine_eq
    rw [List.size_toArray]; omega
  · rw [← i1]
    refine atI_nat ?_
    show L[ixOf n p]? = _
    rw [List.getElem?_eq_getElem hlt]
    unfold colr
    rw [List.getD_eq_getElem?_getD, List.getElem?_eq_getElem hlt]; rfl
def lnb (p : Pt) : List Pt := [(p.1 + 1, p.2), (p.1 - 1, p.2), (p.1, p.2 + 1), (p.1, p.2 - 1)]
def sp__law_near (K : PySem.W.Frag) : Sp := fun vs H Q _ => ∃ (a : Addr) (p : Pt), vs = [.ref a] ∧ H a = some (tup2 p) ∧ ∀ l us H', H l = none → Same H H' → H' l = some (.lst us) → Ps H' us (lnb p) → Q (.ref l) H'
theorem ok__law_near (T : Tx K mg) : FnR P w K mg base CX0 1 (He.ga K "_law_near") (sp__law_near K) := by
  refine fnr_of T.f__law_near sc__law_near (fun _ _ _ _ _ _ us hl => match us, hl with | [_], _ => rfl) (fun vs H Q E h => by obtain ⟨_, _, rfl, _⟩ := h; rfl) (fun cdv A outer s H vs Q E hr h => ?_)
  have nd := sc__law_near.nd
  refine ⟨_, (pss_one (ps_ret (pe_lstS (pa_cons (pe_tupS (pa_cons (pe_op op_add (pe_ix ix_tup (pv 0) pe_int (fun _ _ => rfl)) pe_int) (pa_cons (pe_ix ix_tup (pv 0) pe_int (fun _ _ => rfl)) pa_nil))) (pa_cons (pe_tupS (pa_cons (pe_op op_sub (pe_ix ix_tup (pv 0) pe_int (fun _ _ => rfl)) pe_int) (pa_cons (pe_ix ix_tup (pv 0) pe_int (fun _ _ => rfl)) pa_nil))) (pa_cons (pe_tupS (pa_cons (pe_ix ix_tup (pv 0) pe_int (fun _ _ => rfl)) (pa_cons (pe_op op_add (pe_ix ix_tup (pv 0) pe_int (fun _ _ => rfl)) pe_int) pa_nil))) (pa_cons (pe_tupS (pa_cons (pe_ix ix_tup (pv 0) pe_int (fun _ _ => rfl)) (pa_cons (pe_op op_sub (pe_ix ix_tup (pv 0) pe_int (fun _ _ => rfl)) pe_int) pa_nil))) pa_nil))))))), ?_⟩
  try dsimp only [cxOf]
  obtain ⟨a, p, rfl, ha, q⟩ := h
  tm_at "sx"
  refine ⟨by show 2 ≤ sizeLine; decide, fun b1 H1 n1 s1 e1 => ?_⟩
  tm_at "sx"
  refine ⟨by show 2 ≤ sizeLine; decide, fun b2 H2 n2 s2 e2 => ?_⟩
  tm_at "sx"
  refine ⟨by show 2 ≤ sizeLine; decide, fun b3 H3 n3 s3 e3 => ?_⟩
  tm_at "sx"
  refine ⟨by show 2 ≤ sizeLine; decide, fun b4 H4 n4 s4 e4 => ?_⟩
  tm_at "sx"
  refine ⟨by show 4 ≤ sizeLine; decide, fun l H5 n5 s5 e5 => ?_⟩
  have f1 : H5 b1 = some (tup2 (p.1 + 1, p.2)) := by tm_at "fact"
  have f2 : H5 b2 = some (tup2 (p.1 - 1, p.2)) := by tm_at "fact"
  have f3 : H5 b3 = some (tup2 (p.1, p.2 + 1)) := by tm_at "fact"
  have f4 : H5 b4 = some (tup2 (p.1, p.2 - 1)) := by tm_at "fact"
  have s14 : Same H H4 := Same.trans s1 (Same.trans s2 (Same.trans s3 s4))
  refine q l _ H5 ?_ (Same.trans s14 s5) e5 (.cons ⟨b1, rfl, f1⟩ (.cons ⟨b2, rfl, f2⟩ (.cons ⟨b3, rfl, f3⟩ (.cons ⟨b4, rfl, f4⟩ .nil))))
  cases z : H l with
  | none => rfl
  | some u => rw [s14 _ _ z] at n5; cases n5
end
end Cp
set_option Elab.async false
set_option linter.all false
/-! D4: the search with the neighbours in another order. -/
namespace Cp
open PySem
theorem lnb_mem {p q : Pt} : q ∈ lnb p ↔ q ∈ nbs p := by
  unfold lnb nbs
  simp only [List.mem_cons, List.not_mem_nil, or_false]
  constructor
  · rintro (h | h | h | h)
    · exact .inl h
    · exact .inr (.inr (.inl h))
    · exact .inr (.inl h)
    · exact .inr (.inr (.inr h))
  · rintro (h | h | h | h)
    · exact .inl h
    · exact .inr (.inr (.inl h))
    · exact .inr (.inl h)
    · exact .inr (.inr (.inr h))
theorem lnb_perm (p : Pt) : (lnb p).Perm (nbs p) := by
  unfold lnb nbs
  exact List.Perm.cons _ (List.Perm.swap _ _ _)
theorem lnb_len (p : Pt) : (lnb p).length = 4 := rfl
def foldA (n : T3) (L : List Nat) (c : Nat) (p : Pt) (i : Nat) (st : DS) : DS := ((lnb p).take i).foldl (dn n L c) st
theorem foldA_succ (n : T3) (L : List Nat) (c : Nat) (p : Pt) (i : Nat) (st : DS) {q : Pt} (h : (lnb p)[i]? = some q) : foldA n L c p (i + 1) st = dn n L c (foldA n L c p i st) q := by
  unfold foldA
  rw [List.take_add_one, h, List.foldl_append]; rfl
theorem DI.foldA {n : T3} {L : List Nat} {c : Nat} {p0 : Pt} {Dn T : List Pt} {st : DS} (h : DI n L c p0 Dn T st) {p : Pt} (hp : p ∈ st.M.map (·.2)) :
    ∀ i : Nat, DI n L c p0 Dn (T ++ (lnb p).take i) (Cp.foldA n L c p i st) ∧ p ∈ (Cp.foldA n L c p i st).M.map (·.2)
  | 0 => by rw [List.take_zero, List.append_nil]; exact ⟨h, hp⟩
  | i + 1 => by
    obtain ⟨h1, h2⟩ := DI.foldA h hp i
    cases e : (lnb p)[i]? with
    | none =>
      have e2 : (lnb p).take (i + 1) = (lnb p).take i := by rw [List.take_add_one, e]; simp
      unfold Cp.foldA at *
      rw [e2]; exact ⟨h1, h2⟩
    | some q =>
      obtain ⟨g1, l, g2⟩ := h1.next h2 (lnb_mem.mp (List.mem_of_getElem? e))
      rw [foldA_succ n L c p i st e, List.take_add_one, e]
      refine ⟨?_, ?_⟩
      · rw [← List.append_assoc]; exact g1
      · rw [g2, List.map_append]; exact List.mem_append_left _ h2
theorem DI.roundA {n : T3} {L : List Nat} {c : Nat} {p0 : Pt} {Dn W : List Pt} {p : Pt} {M : List (Pt × Pt)} {S : List Pt} {b : Nat} (h : DI n L c p0 Dn (Dn.flatMap lnb) ⟨M, W ++ [p], S, b⟩) :
    DI n L c p0 (Dn ++ [p]) ((Dn ++ [p]).flatMap lnb) (Cp.foldA n L c p 4 ⟨M, W, S, b⟩) := by
  obtain ⟨h1, h2⟩ := h.pop
  have := (h1.foldA (p := p) h2 4).1
  rw [List.take_of_length_le (Nat.le_of_eq (lnb_len p))] at this
  rw [List.flatMap_append]
  simpa using this
theorem flat_lnb : ∀ l : List Pt, (l.flatMap lnb).length = 4 * l.length
  | [] => rfl
  | a :: l => by rw [List.flatMap_cons, List.length_append, flat_lnb l, lnb_len, List.length_cons]; omega
theorem DI.foldA_meas {n : T3} {L : List Nat} {c : Nat} {p0 : Pt} {Dn T : List Pt} {st : DS} (ok : NOk n) (h : DI n L c p0 Dn T st) {p : Pt} (hp : p ∈ st.M.map (·.2)) :
    ∀ i : Nat, meas (cellL n).length (Cp.foldA n L c p i st) ≤ meas (cellL n).length st
  | 0 => Nat.le_refl _
  | i + 1 => by
    have ih := DI.foldA_meas ok h hp i
    obtain ⟨h1, h2⟩ := DI.foldA h hp i
    cases e : (lnb p)[i]? with
    | none =>
      have e2 : (lnb p).take (i + 1) = (lnb p).take i := by rw [List.take_add_one, e]; simp
      unfold Cp.foldA at *
      rw [e2]; exact ih
    | some q =>
      rw [foldA_succ n L c p i st e]
      have h3 := (DI.foldA h hp (i + 1)).1.len ok
      rw [foldA_succ n L c p i st e] at h3
      exact Nat.le_trans (dn_meas h3) ih
theorem DI.doneA {n : T3} {L : List Nat} {p0 : Pt} {Dn : List Pt} {M : List (Pt × Pt)} {S : List Pt} {b : Nat} (h : DI n L (colr n L p0) p0 Dn (Dn.flatMap lnb) ⟨M, [], S, b⟩) : DF n L p0 M S b := by
  have hperm : Dn.Perm (M.map (·.2)) := by
    have := h.perm
    rw [List.append_nil] at this
    exact this
  refine ⟨h.nod, h.low, h.col, h.head, h.ind, h.conn, fun e he q hq hc => ?_, ?_, h.sh, h.shb⟩
  · refine h.clo q (List.mem_flatMap.mpr ⟨e.2, hperm.mem_iff.mpr (List.mem_map.mpr ⟨e, he, rfl⟩), lnb_mem.mpr hq⟩) hc
  · have h1 := h.bor
    dsimp only at h1
    rw [h1, len_filter_flatMap]
    rw [perm_sum (hperm.map fun x => ((lnb x).filter fun q => decide (colr n L q ≠ colr n L p0)).length), List.map_map]
    congr 1
    exact List.map_congr_left fun e _ => ((lnb_perm e.2).filter _).length_eq
theorem lnb_dif (f : Pt → Nat) (p : Pt) : ((lnb p).filter fun q => decide (f q ≠ f p)).length = dif f p := ((lnb_perm p).filter _).length_eq
end Cp
set_option Elab.async false
set_option linter.all false
set_option maxRecDepth 100000
set_option maxHeartbeats 2000000
/-! F25: kinds of motions; whether a shift keeps the colours, as the law asks it. -/
namespace Cp
open PySem PySem.Spec PyProof.Rows L2
local macro_rules | `(tactic| tm_at "fact") => `(tactic| first
  | assumption
  | (apply Same.up; · assumption
     tm_at "fact")
  | (apply Same.upS; · assumption
     tm_at "fact")
  | (apply Same.upL; · assumption
     tm_at "fact")
  | (apply sq_of; tm_at "fact")
  | (apply sl_of; tm_at "fact")
  | (apply Chg.up; · assumption
     · tm_at "fact"
     · exact fun z => nomatch z)
  | (apply Chg.upS; · assumption
     · tm_at "fact"
     · exact fun _ z => nomatch z
     · exact fun _ _ z => nomatch z))
local macro_rules | `(tactic| tm_at "same") => `(tactic| first
  | assumption
  | exact Same.refl _
  | (refine Same.trans ?_ ?_; rotate_left; · assumption
     tm_at "same"))
local macro_rules | `(tactic| tm_at "sx1") => `(tactic| with_reducible first
  | refine w_var rfl ?_
  | refine w_c ?_
  | refine w_op ?_
  | refine w_seq ?_
  | refine w_asg ?_
  | refine w_gname ?_
  | refine w_ret ?_
  | refine w_nil ?_
  | refine w_cons ?_
  | refine w_tup ?_
  | refine w_lst ?_
  | refine w_cb ?_
  | refine w_callR ?_
  | refine w_i0 ?_
  | refine w_gcons ?_
  | refine w_gnil ?_
  | refine w_test ?_
  | refine w_not ?_
  | refine w_ifs ?_
  | refine w_if ?_
  | refine w_expr ?_
  | refine w_eqI ?_
  | refine w_neI ?_
  | refine w_eqS ?_
  | refine w_neS ?_
  | refine w_or ?_
  | refine w_and ?_
  | refine w_par3 ?_
  | refine w_andV ?_
  | refine w_notV ?_
  | refine w_lcS ?_
  | refine w_forE ?_
  | refine w_m1 ?_
  | refine w_forL ?_
  | refine w_forR1 ?_
  | refine w_isN ?_
  | refine w_notN ?_
  | refine w_fld ?_
  | refine w_methR ?_
  | refine w_propR ?_
  | refine w_propA ?_
  | refine w_methA ?_
  | refine w_subA ?_
  | refine w_makeS ?_
  | refine w_fldS ?_
  | refine w_chain ?_
  | refine w_orV ?_
  | refine w_next ?_
  | refine w_tB ?_
  | refine w_lcL ?_
  | refine w_lcT ?_
  | refine w_lcR1 ?_
  | refine w_lcR2 ?_
  | refine w_turn ?_
  | refine w_yes ?_
  | refine w_par ?_
  | refine w_uI ?_
  | refine w_un ?_
  | refine w_one ?_)
local macro_rules | `(tactic| tm_at "at") => `(tactic| first | exact rfl | exact atI_nat rfl)
local macro_rules | `(tactic| tm_at "ix") => `(tactic| first
  | (with_reducible apply w_ixT; · tm_at "fact"
     · tm_at "at")
  | (with_reducible apply w_ixL; · tm_at "fact"
     · tm_at "at")
  | (with_reducible apply w_gtup; · tm_at "fact"
     · exact rfl))
local macro_rules | `(tactic| tm_at "sx") => `(tactic| repeat (first | tm_at "sx1" | tm_at "ix"))
def KINDS : List Str := ["none", "left", "half", "right", "flip", "mirror", "swap", "cross"]
theorem kinds_ok {k : Str} (h : k ∈ KINDS) : PyData.strOk k = true := by
  have : ∀ k ∈ KINDS, PyData.strOk k = true := by decide +kernel
  exact this k h
theorem none_kind : ("none" : Str) ∈ KINDS := by decide +kernel
/-- a motion: kind and shift -/
def MvV (H : Hp) (m : Addr) (k : Str) (s : Pt) : Prop := ∃ a, H m = some (.tup [.str k, .ref a]) ∧ H a = some (tup2 s)
theorem MvV.same {H H' : Hp} {m : Addr} {k : Str} {s : Pt} (h : Same H H') (g : MvV H m k s) : MvV H' m k s := let ⟨a, h1, h2⟩ := g; ⟨a, h _ _ h1, h _ _ h2⟩
theorem w_in2 {K : PySem.W.Frag} {H : Hp} {Q : VK} {k x y : Str} {l : Addr} (hk : PyData.strOk k = true) (hx : PyData.strOk x = true) (hy : PyData.strOk y = true) (hl : SqL K H l [.str x, .str y]) (q : Q (.bl ([PyData.str x, PyData.str y].any fun z => PyData.eqv z (.str k))) H) : rInD K (.str k) (.ref l) H Q := by
  refine ⟨.str k, [.str x, .str y], .str k, .lst hl (.cons (.str _) (.cons (.str _) .nil)), ?_, ?_, q⟩
  · show (PyData.canLay0 (.str k) && decide (PyData.depth (.str k) ≤ 64)) = true
    simp [PyData.canLay0, PyData.depth, hk]
  · show (PyData.canLay0 (.list [.str x, .str y]) && decide (PyData.depth (.list [.str x, .str y]) ≤ 64)) = true
    simp [PyData.canLay0, PyData.canLayAll0, PyData.depth, PyData.depthAll, hx, hy]
section
variable {P : Program} {w : World} {K : PySem.W.Frag} {mg : Str → Option Value} {base : Heap}
def sp__law_kinds (K : PySem.W.Frag) : Sp := fun vs H Q _ => vs = [] ∧ ∀ l H', H l = none → Same H H' → H' l = some (.lst (KINDS.map V.str)) → Q (.ref l) H'
theorem ok__law_kinds (T : Tx K mg) : FnR P w K mg base CX0 1 (He.ga K "_law_kinds") (sp__law_kinds K) := by
  refine fnr_of T.f__law_kinds sc__law_kinds (fun _ _ _ _ _ _ us hl => match us, hl with | [], _ => rfl) (fun vs H Q E h => by obtain ⟨rfl, _⟩ := h; rfl) (fun cdv A outer s H vs Q E hr h => ?_)
  have nd := sc__law_kinds.nd
  refine ⟨_, (pss_one (ps_ret (pe_lstS (pa_cons pe_str (pa_cons pe_str (pa_cons pe_str (pa_cons pe_str (pa_cons pe_str (pa_cons pe_str (pa_cons pe_str (pa_cons pe_str pa_nil))))))))))), ?_⟩
  try dsimp only [cxOf]
  obtain ⟨rfl, q⟩ := h
  tm_at "sx"
  exact ⟨by show 8 ≤ sizeLine; decide, fun l H1 n1 s1 e1 => q l H1 n1 s1 e1⟩
def sp__law_turned (K : PySem.W.Frag) : Sp := fun vs H Q _ => ∃ (k : Str) (a : Addr) (p : Pt), vs = [.str k, .ref a] ∧ k ∈ KINDS ∧ H a = some (tup2 p) ∧ ∀ u H' r, Same H H' → H' u = some (tup2 r) → (k = "none" → r = p) → Q (.ref u) H'
theorem ok__law_turned (T : Tx K mg) : FnR P w K mg base CX0 1 (He.ga K "_law_turned") (sp__law_turned K) := by
  refine fnr_of T.f__law_turned sc__law_turned (fun _ _ _ _ _ _ us hl => match us, hl with | [_, _], _ => rfl) (fun vs H Q E h => by obtain ⟨_, _, _, rfl, _⟩ := h; rfl) (fun cdv A outer s H vs Q E hr h => ?_)
  have nd := sc__law_turned.nd
  refine ⟨_, (pss_cons (ps_asg (pv 1) (pg_tup rfl (pgs_cons (pg_name (i := 2) nd rfl (Or.inl rfl)) (pgs_cons (pg_name (i := 3) nd rfl (Or.inl rfl)) pgs_nil))))
    (pss_cons (ps_if (pt_cmpR (op_inD (hu65 hr)) (pv 0) (pe_lstS (pa_cons pe_str (pa_cons pe_str pa_nil))) (by with_unfolding_all rfl)) (pss_one (ps_ret (pe_ifExp (pt_cmpR op_eq (pv 0) pe_str (nomark _)) (pe_tupS (pa_cons (pv 2) (pa_cons (pv 3) pa_nil))) (pe_tupS (pa_cons (pv 2) (pa_cons (pe_op op_sub pe_int (pv 3)) pa_nil)))))) pss_nil)
    (pss_cons (ps_if (pt_cmpR (op_inD (hu65 hr)) (pv 0) (pe_lstS (pa_cons pe_str (pa_cons pe_str pa_nil))) (by with_unfolding_all rfl)) (pss_one (ps_ret (pe_ifExp (pt_cmpR op_eq (pv 0) pe_str (nomark _)) (pe_tupS (pa_cons (pe_op op_sub pe_int (pv 3)) (pa_cons (pv 2) pa_nil))) (pe_tupS (pa_cons (pv 3) (pa_cons (pe_op op_sub pe_int (pv 2)) pa_nil)))))) pss_nil)
    (pss_cons (ps_if (pt_cmpR (op_inD (hu65 hr)) (pv 0) (pe_lstS (pa_cons pe_str (pa_cons pe_str pa_nil))) (by with_unfolding_all rfl)) (pss_one (ps_ret (pe_ifExp (pt_cmpR op_eq (pv 0) pe_str (nomark _)) (pe_tupS (pa_cons (pe_op op_sub pe_int (pv 2)) (pa_cons (pe_op op_sub pe_int (pv 3)) pa_nil))) (pe_tupS (pa_cons (pe_op op_sub pe_int (pv 2)) (pa_cons (pv 3) pa_nil)))))) pss_nil)
    (pss_one (ps_ret (pe_ifExp (pt_cmpR op_eq (pv 0) pe_str (nomark _)) (pe_tupS (pa_cons (pv 3) (pa_cons (pv 2) pa_nil))) (pe_tupS (pa_cons (pe_op op_sub pe_int (pv 3)) (pa_cons (pe_op op_sub pe_int (pv 2)) pa_nil)))))))))), ?_⟩
  try dsimp only [cxOf]
  obtain ⟨k, a, p, rfl, hk, ha, q⟩ := h
  have hok := kinds_ok hk
  have hsl := sizeLine_eq
  tm_at "sx"
  refine ⟨by show 2 ≤ sizeLine; decide, fun l1 H1 n1 s1 e1 => ?_⟩
  refine w_in2 hok (by decide +kernel) (by decide +kernel) (sl_of e1) ?_
  refine ⟨_, rfl, ?_⟩
  have hn1 : k = "none" → ([PyData.str "none", PyData.str "flip"].any fun z => PyData.eqv z (.str k)) = true := fun e => by rw [e]; decide +kernel
  cases h1 : ([PyData.str "none", PyData.str "flip"].any fun z => PyData.eqv z (.str k)) with
  | true =>
    refine w_tt ?_
    tm_at "sx"
    refine ⟨_, rfl, ?_⟩
    by_cases h2 : k = "none"
    · rw [decide_eq_true h2]
      refine w_tt ?_
      tm_at "sx"
      exact ⟨by show 2 ≤ sizeLine; decide, fun u H2 _ s2 e2 => q u H2 p (Same.trans s1 s2) e2 fun _ => rfl⟩
    · rw [decide_eq_false h2]
      refine w_ff ?_
      tm_at "sx"
      exact ⟨by show 2 ≤ sizeLine; decide, fun u H2 _ s2 e2 => q u H2 (p.1, 0 - p.2) (Same.trans s1 s2) e2 fun z => absurd z h2⟩
  | false =>
    have hk' : k ≠ "none" := fun e => by rw [hn1 e] at h1; cases h1
    refine w_ff ?_
    tm_at "sx"
    refine ⟨by show 2 ≤ sizeLine; decide, fun l2 H2 n2 s2 e2 => ?_⟩
    refine w_in2 hok (by decide +kernel) (by decide +kernel) (sl_of e2) ?_
    refine ⟨_, rfl, ?_⟩
    cases h3 : ([PyData.str "left", PyData.str "right"].any fun z => PyData.eqv z (.str k)) with
    | true =>
      refine w_tt ?_
      tm_at "sx"
      refine ⟨_, rfl, ?_⟩
      cases decide (k = "left") with
      | true =>
        refine w_tt ?_
        tm_at "sx"
        exact ⟨by show 2 ≤ sizeLine; decide, fun u H3 _ s3 e3 => q u H3 (0 - p.2, p.1) (Same.trans s1 (Same.trans s2 s3)) e3 fun z => absurd z hk'⟩
      | false =>
        refine w_ff ?_
        tm_at "sx"
        exact ⟨by show 2 ≤ sizeLine; decide, fun u H3 _ s3 e3 => q u H3 (p.2, 0 - p.1) (Same.trans s1 (Same.trans s2 s3)) e3 fun z => absurd z hk'⟩
    | false =>
      refine w_ff ?_
      tm_at "sx"
      refine ⟨by show 2 ≤ sizeLine; decide, fun l3 H3 n3 s3 e3 => ?_⟩
      refine w_in2 hok (by decide +kernel) (by decide +kernel) (sl_of e3) ?_
      refine ⟨_, rfl, ?_⟩
      cases h4 : ([PyData.str "half", PyData.str "mirror"].any fun z => PyData.eqv z (.str k)) with
      | true =>
        refine w_tt ?_
        tm_at "sx"
        refine ⟨_, rfl, ?_⟩
        cases decide (k = "half") with
        | true =>
          refine w_tt ?_
          tm_at "sx"
          exact ⟨by show 2 ≤ sizeLine; decide, fun u H4 _ s4 e4 => q u H4 (0 - p.1, 0 - p.2) (Same.trans s1 (Same.trans s2 (Same.trans s3 s4))) e4 fun z => absurd z hk'⟩
        | false =>
          refine w_ff ?_
          tm_at "sx"
          exact ⟨by show 2 ≤ sizeLine; decide, fun u H4 _ s4 e4 => q u H4 (0 - p.1, p.2) (Same.trans s1 (Same.trans s2 (Same.trans s3 s4))) e4 fun z => absurd z hk'⟩
      | false =>
        refine w_ff ?_
        tm_at "sx"
        refine ⟨_, rfl, ?_⟩
        cases decide (k = "swap") with
        | true =>
          refine w_tt ?_
          tm_at "sx"
          exact ⟨by show 2 ≤ sizeLine; decide, fun u H4 _ s4 e4 => q u H4 (p.2, p.1) (Same.trans s1 (Same.trans s2 (Same.trans s3 s4))) e4 fun z => absurd z hk'⟩
        | false =>
          refine w_ff ?_
          tm_at "sx"
          exact ⟨by show 2 ≤ sizeLine; decide, fun u H4 _ s4 e4 => q u H4 (0 - p.2, 0 - p.1) (Same.trans s1 (Same.trans s2 (Same.trans s3 s4))) e4 fun z => absurd z hk'⟩
def sp__law_carried (K : PySem.W.Frag) : Sp := fun vs H Q _ => ∃ (m a : Addr) (k : Str) (s p : Pt), vs = [.ref m, .ref a] ∧ MvV H m k s ∧ k ∈ KINDS ∧ H a = some (tup2 p) ∧ ∀ u H' r, Same H H' → H' u = some (tup2 r) → (k = "none" → r = padd p s) → Q (.ref u) H'
theorem ok__law_carried (T : Tx K mg) : FnR P w K mg base CX0 2 (He.ga K "_law_carried") (sp__law_carried K) := by
  refine fnr_of T.f__law_carried sc__law_carried (fun _ _ _ _ _ _ us hl => match us, hl with | [_, _], _ => rfl) (fun vs H Q E h => by obtain ⟨_, _, _, _, _, rfl, _⟩ := h; rfl) (fun cdv A outer s H vs Q E hr h => ?_)
  have nd := sc__law_carried.nd
  refine ⟨_, (pss_cons (ps_asg (pe_callR (ok__law_turned T) (hr.mono (by decide)) rfl T.g__law_turned T.k__law_turned (pa_cons (pe_ix ix_tup (pv 0) pe_int (fun _ _ => rfl)) (pa_cons (pv 1) pa_nil))) (pg_tup rfl (pgs_cons (pg_name (i := 2) nd rfl (Or.inl rfl)) (pgs_cons (pg_name (i := 3) nd rfl (Or.inl rfl)) pgs_nil))))
    (pss_one (ps_ret (pe_tupS (pa_cons (pe_op op_add (pv 2) (pe_ix ix_tup (pe_ix ix_tup (pv 0) pe_int (fun _ _ => rfl)) pe_int (fun _ _ => rfl))) (pa_cons (pe_op op_add (pv 3) (pe_ix ix_tup (pe_ix ix_tup (pv 0) pe_int (fun _ _ => rfl)) pe_int (fun _ _ => rfl))) pa_nil)))))), ?_⟩
  try dsimp only [cxOf]
  obtain ⟨m, a, k, s, p, rfl, ⟨b, hm, hb⟩, hk, ha, q⟩ := h
  tm_at "sx"
  refine ⟨k, a, p, rfl, hk, ha, fun u H1 r s1 e1 hr => ?_⟩
  tm_at "sx"
  refine ⟨by show 2 ≤ sizeLine; decide, fun t H2 _ s2 e2 => q t H2 (padd r s) (Same.trans s1 s2) e2 fun z => by rw [hr z]⟩
def sp__law_keeps (K : PySem.W.Frag) : Sp := fun vs H Q _ => ∃ (t : Addr) (n : T3) (k : Str), vs = [.ref t, .str k] ∧ H t = some (tup3 n) ∧ NOk n ∧ k ∈ KINDS ∧ ∀ H' b, Same H H' → (k = "none" → b = true) → Q (.bl b) H'
theorem ok__law_keeps (T : Tx K mg) : FnR P w K mg base CX0 2 (He.ga K "_law_keeps") (sp__law_keeps K) := by
  refine fnr_of T.f__law_keeps sc__law_keeps (fun _ _ _ _ _ _ us hl => match us, hl with | [_, _], _ => rfl) (fun vs H Q E h => by obtain ⟨_, _, _, rfl, _⟩ := h; rfl) (fun cdv A outer s H vs Q E hr h => ?_)
  have nd := sc__law_keeps.nd
  refine ⟨_, (pss_cons (ps_set (i := 2) nd rfl (Or.inl rfl) (pe_lstS (pa_cons (pe_callR (ok__law_turned T) (hr.mono (by decide)) rfl T.g__law_turned T.k__law_turned (pa_cons (pv 1) (pa_cons (pe_tupS (pa_cons (pe_ix ix_tup (pv 0) pe_int (fun _ _ => rfl)) (pa_cons pe_int pa_nil))) pa_nil))) (pa_cons (pe_callR (ok__law_turned T) (hr.mono (by decide)) rfl T.g__law_turned T.k__law_turned (pa_cons (pv 1) (pa_cons (pe_tupS (pa_cons (pe_ix ix_tup (pv 0) pe_int (fun _ _ => rfl)) (pa_cons (pe_ix ix_tup (pv 0) pe_int (fun _ _ => rfl)) pa_nil))) pa_nil))) pa_nil))))
    (pss_one (ps_ret (pe_cmpR (op_eqD (hu64 hr)) (pe_lcL (own := [("_law_row", 3)]) (g := (gName 3)) rfl nd (pv 2) (blkOk_by (N := N_law_keeps) (sc := defScope s_law_keeps) (by decide +kernel)) (fun _ _ _ _ _ => (pg_name (i := 3) nd rfl (Or.inl rfl))) (fun _ _ _ _ _ => (pts_one (pt_cmpR (r := rNeD K) (op_neD (hu64 hr)) (pe_callR (ok__law_low T) (hr.mono (by decide)) rfl T.g__law_low T.k__law_low (pa_cons (pv 0) (pa_cons (pv 3) pa_nil))) (pe_tupS (pa_cons pe_int (pa_cons pe_int pa_nil))) (nomark _)))) (fun _ _ _ _ _ => (pv 3))) (pe_lstS pa_nil) (nomark _))))), ?_⟩
  try dsimp only [cxOf]
  obtain ⟨t, n, k, rfl, ht, ok, hk, q⟩ := h
  have hsl := sizeLine_eq
  tm_at "sx"
  refine ⟨by show 2 ≤ sizeLine; decide, fun a1 H1 n1 s1 e1 => ?_⟩
  tm_at "sx"
  refine ⟨k, a1, (n.1, 0), rfl, hk, e1, fun u1 H2 r1 s2 e2 hr1 => ?_⟩
  have ht2 : H2 t = some (tup3 n) := by tm_at "fact"
  tm_at "sx"
  refine ⟨by show 2 ≤ sizeLine; decide, fun a2 H3 n3 s3 e3 => ?_⟩
  tm_at "sx"
  refine ⟨k, a2, (n.2.1, n.2.2), rfl, hk, e3, fun u2 H4 r2 s4 e4 hr2 => ?_⟩
  tm_at "sx"
  refine ⟨by show 2 ≤ sizeLine; decide, fun l H5 n5 s5 e5 => ?_⟩
  tm_at "sx"
  have s35 : Same H2 H5 := Same.trans s3 (Same.trans s4 s5)
  have ht5 := s35 _ _ ht2
  have e25 := s35 _ _ e2
  have e45 := s5 _ _ e4
  refine ⟨l, _, rfl, sl_of e5, by show 2 < sizeLine; decide, fun i acc H' => ∃ ps, Ps H' acc ps ∧ (k = "none" → ps = []), fun _ _ => ⟨[], .nil, fun _ => rfl⟩, fun D i v acc H' hi hx hD s6 e6 p => ?_, fun D acc H' hD s6 e6 p => ?_⟩
  · obtain ⟨ps, p1, p2⟩ := p
    obtain ⟨u, r, rfl, hu, hlow⟩ : ∃ u r, v = .ref u ∧ H5 u = some (tup2 r) ∧ (k = "none" → low n r = (0, 0)) := by
      match i, hi, hx with
      | 0, _, hx => exact ⟨u1, r1, (Option.some.inj hx).symm, e25, fun z => by rw [hr1 z]; exact lat_low ok.nv ⟨1, 0, by simp⟩⟩
      | 1, _, hx => exact ⟨u2, r2, (Option.some.inj hx).symm, e45, fun z => by rw [hr2 z]; exact lat_low ok.nv ⟨0, 1, by simp⟩⟩
    tm_at "sx"
    refine ⟨rfl, ?_⟩
    tm_at "sx"
    refine ⟨t, u, n, r, rfl, s6 _ _ ht5, ok.nw r, s6 _ _ hu, fun b H7 s7 e7 => ?_⟩
    tm_at "sx"
    refine ⟨by show 2 ≤ sizeLine; decide, fun c H8 n8 s8 e8 => ?_⟩
    refine w_nePl (x := (low n r).1) (y := (low n r).2) (sq_of (s8 _ _ e7)) (sq_of e8) ?_
    refine ⟨_, rfl, ?_⟩
    have s78 : Same H' H8 := Same.trans s7 s8
    by_cases hz : low n r = (0, 0)
    · rw [show decide (((low n r).1, (low n r).2) = ((0, 0) : Int × Int)) = true from decide_eq_true hz]
      exact w_ff ⟨s78 _ _ e6, Same.trans s6 s78, ps, p1.same s78, p2⟩
    · rw [show decide (((low n r).1, (low n r).2) = ((0, 0) : Int × Int)) = false from decide_eq_false hz]
      refine w_tt ?_
      tm_at "sx"
      refine ⟨s78 _ _ e6, Same.trans s6 s78, fun H9 k9 s9 => ⟨ps ++ [r], ((p1.same s78).chg k9 (fun _ z => nomatch z)).app (Ps.one (k9.up (s78 _ _ (s6 _ _ hu)) (fun z => nomatch z))), fun z => absurd (hlow z) hz⟩⟩
  · obtain ⟨ps, p1, p2⟩ := p
    tm_at "sx"
    refine ⟨Nat.zero_le _, fun em H7 n7 s7 e7 => ?_⟩
    refine w_eqPs (sl_of (s7 _ _ e6)) (p1.same s7) (sl_of e7) ?_
    refine q H7 _ (Same.trans s1 (Same.trans s2 (Same.trans s35 (Same.trans s6 s7)))) fun z => decide_eq_true (p2 z)
/-- whether a shift keeps the colours -/
def sp__law_is_kept (K : PySem.W.Frag) : Sp := fun vs H Q _ => ∃ (t m : Addr) (n : T3) (L : List Nat) (s : Pt), vs = [.ref t, .str (txt L), .ref m] ∧ H t = some (tup3 n) ∧ TOk n L ∧ MvV H m "none" s ∧ ∀ H', Same H H' → Q (.bl (keptB n L s)) H'
theorem ok__law_is_kept (T : Tx K mg) : FnR P w K mg base CX0 3 (He.ga K "_law_is_kept") (sp__law_is_kept K) := by
  refine fnr_of T.f__law_is_kept sc__law_is_kept (fun _ _ _ _ _ _ us hl => match us, hl with | [_, _, _], _ => rfl) (fun vs H Q E h => by obtain ⟨_, _, _, _, _, rfl, _⟩ := h; rfl) (fun cdv A outer s H vs Q E hr h => ?_)
  have nd := sc__law_is_kept.nd
  refine ⟨_, (pss_cons (ps_if (pt_not (pt_val (pe_callR (ok__law_keeps T) (hr.mono (by decide)) rfl T.g__law_keeps T.k__law_keeps (pa_cons (pv 0) (pa_cons (pe_ix ix_tup (pv 2) pe_int (fun _ _ => rfl)) pa_nil))))) (pss_one (ps_ret pe_bl)) pss_nil)
    (pss_cons (ps_for PassesOwn.never rfl (pi_list (pe_callR (ok__law_spots T) (hr.mono (by decide)) rfl T.g__law_spots T.k__law_spots (pa_cons (pv 0) pa_nil))) (pg_name (i := 3) nd rfl (Or.inl rfl)) (pss_one (ps_if (pt_cmpR op_ne (pe_callR (ok__law_seen T) (hr.mono (by decide)) rfl T.g__law_seen T.k__law_seen (pa_cons (pv 0) (pa_cons (pv 1) (pa_cons (pe_callR (ok__law_carried T) (hr.mono (by decide)) rfl T.g__law_carried T.k__law_carried (pa_cons (pv 2) (pa_cons (pv 3) pa_nil))) pa_nil)))) (pe_callR (ok__law_seen T) (hr.mono (by decide)) rfl T.g__law_seen T.k__law_seen (pa_cons (pv 0) (pa_cons (pv 1) (pa_cons (pv 3) pa_nil)))) (nomark _)) (pss_one (ps_ret pe_bl)) pss_nil)))
    (pss_one (ps_ret pe_bl)))), ?_⟩
  try dsimp only [cxOf]
  obtain ⟨t, m, n, L, s, rfl, ht, ok, hm, q⟩ := h
  obtain ⟨b, hm1, hb⟩ := id hm
  tm_at "sx"
  refine ⟨t, n, "none", rfl, ht, ok.net, none_kind, fun H1 c s1 hc => ?_⟩
  rw [hc rfl]
  refine ⟨true, rfl, w_ff ?_⟩
  tm_at "sx"
  refine ⟨t, n, rfl, s1 _ _ ht, ok.net, fun l us H2 nl s2 e2 p2 => ?_⟩
  refine ⟨l, rfl, ⟨us, sl_of e2⟩, ?_⟩
  have s02 := Same.trans s1 s2
  refine for_list (xs := us) (fun i σ H' => (∃ o3 : Option V, σ = [some (.ref t), some (.str (txt L)), some (.ref m), o3]) ∧ Same H2 H' ∧ ∀ p ∈ (cellL n).take i, colr n L p = colr n L (padd p s))
    ⟨⟨none, rfl⟩, Same.refl _, fun p hp => by simp at hp⟩ (fun i σ H' _ hI => Same.upL hI.2.1 (sl_of e2)) (fun i x σ H' hx hI => ?_) (fun σ H' hI => ?_)
  · obtain ⟨⟨o3, rfl⟩, s3, hk⟩ := hI
    obtain ⟨bx, p, rfl, hbx, hpi⟩ := (p2.same s3).at hx
    have s03 := Same.trans s02 s3
    tm_at "sx"
    refine ⟨m, bx, "none", s, p, rfl, hm.same s03, none_kind, hbx, fun u H4 r s4 e4 hr => ?_⟩
    tm_at "sx"
    refine ⟨t, u, n, L, r, rfl, s4 _ _ (s03 _ _ ht), ok, e4, fun H5 s5 => ?_⟩
    tm_at "sx"
    have s45 : Same H' H5 := Same.trans s4 s5
    refine ⟨t, bx, n, L, p, rfl, s45 _ _ (s03 _ _ ht), ok, s45 _ _ hbx, fun H6 s6 => ?_⟩
    tm_at "sx"
    refine ⟨_, rfl, ?_⟩
    rw [hr rfl]
    have sA : Same H' H6 := Same.trans s45 s6
    by_cases he : colr n L (padd p s) = colr n L p
    · rw [decide_eq_true (one1_inj.mpr he)]
      refine w_ff ?_
      refine ⟨⟨_, rfl⟩, Same.trans s3 sA, fun r hr => ?_⟩
      rw [List.take_add_one] at hr
      rcases List.mem_append.mp hr with hr | hr
      · exact hk r hr
      · have : (cellL n)[i]? = some p := hpi
        rw [this] at hr
        obtain rfl : r = p := by simpa using hr
        exact he.symm
    · rw [decide_eq_false (fun z => he (one1_inj.mp z))]
      refine w_tt ?_
      tm_at "sx"
      have hf : keptB n L s = false := by
        unfold keptB
        rw [List.all_eq_false]
        exact ⟨p, List.mem_of_getElem? (show (cellL n)[i]? = some p from hpi), by simpa using fun z => he z.symm⟩
      have := q H6 (Same.trans s03 sA)
      rw [hf] at this
      exact this
  · obtain ⟨⟨o3, rfl⟩, s3, hk⟩ := hI
    tm_at "sx"
    have hl : us.length = (cellL n).length := p2.len
    rw [hl, List.take_length] at hk
    have ht : keptB n L s = true := by
      unfold keptB
      rw [List.all_eq_true]
      exact fun p hp => by simpa using hk p hp
    have := q H' (Same.trans s02 s3)
    rw [ht] at this
    exact this
end
end Cp
set_option Elab.async false
set_option linter.all false
set_option maxRecDepth 100000
set_option maxHeartbeats 2000000
/-! F26: the law's own least net. -/
namespace Cp
open PySem PySem.Spec PyProof.Rows L2
local macro_rules | `(tactic| tm_at "fact") => `(tactic| first
  | assumption
  | (apply Same.up; · assumption
     tm_at "fact")
  | (apply Same.upS; · assumption
     tm_at "fact")
  | (apply Same.upL; · assumption
     tm_at "fact")
  | (apply sq_of; tm_at "fact")
  | (apply sl_of; tm_at "fact")
  | (apply Chg.up; · assumption
     · tm_at "fact"
     · exact fun z => nomatch z)
  | (apply Chg.upS; · assumption
     · tm_at "fact"
     · exact fun _ z => nomatch z
     · exact fun _ _ z => nomatch z))
local macro_rules | `(tactic| tm_at "same") => `(tactic| first
  | assumption
  | exact Same.refl _
  | (refine Same.trans ?_ ?_; rotate_left; · assumption
     tm_at "same"))
local macro_rules | `(tactic| tm_at "sx1") => `(tactic| with_reducible first
  | refine w_var rfl ?_
  | refine w_c ?_
  | refine w_op ?_
  | refine w_seq ?_
  | refine w_asg ?_
  | refine w_gname ?_
  | refine w_ret ?_
  | refine w_nil ?_
  | refine w_cons ?_
  | refine w_tup ?_
  | refine w_lst ?_
  | refine w_cb ?_
  | refine w_callR ?_
  | refine w_i0 ?_
  | refine w_gcons ?_
  | refine w_gnil ?_
  | refine w_test ?_
  | refine w_not ?_
  | refine w_ifs ?_
  | refine w_if ?_
  | refine w_expr ?_
  | refine w_eqI ?_
  | refine w_neI ?_
  | refine w_eqS ?_
  | refine w_neS ?_
  | refine w_or ?_
  | refine w_and ?_
  | refine w_par3 ?_
  | refine w_andV ?_
  | refine w_notV ?_
  | refine w_lcS ?_
  | refine w_forE ?_
  | refine w_m1 ?_
  | refine w_forL ?_
  | refine w_forR1 ?_
  | refine w_isN ?_
  | refine w_notN ?_
  | refine w_fld ?_
  | refine w_methR ?_
  | refine w_propR ?_
  | refine w_propA ?_
  | refine w_methA ?_
  | refine w_subA ?_
  | refine w_makeS ?_
  | refine w_fldS ?_
  | refine w_chain ?_
  | refine w_orV ?_
  | refine w_next ?_
  | refine w_tB ?_
  | refine w_lcL ?_
  | refine w_lcT ?_
  | refine w_lcR1 ?_
  | refine w_lcR2 ?_
  | refine w_turn ?_
  | refine w_yes ?_
  | refine w_par ?_
  | refine w_uI ?_
  | refine w_un ?_
  | refine w_one ?_)
local macro_rules | `(tactic| tm_at "at") => `(tactic| first | exact rfl | exact atI_nat rfl)
local macro_rules | `(tactic| tm_at "ix") => `(tactic| first
  | (with_reducible apply w_ixT; · tm_at "fact"
     · tm_at "at")
  | (with_reducible apply w_ixL; · tm_at "fact"
     · tm_at "at")
  | (with_reducible apply w_gtup; · tm_at "fact"
     · exact rfl))
local macro_rules | `(tactic| tm_at "sx") => `(tactic| repeat (first | tm_at "sx1" | tm_at "ix"))
theorem keeps_abs {f : Pt → Nat} {a : Int} (h : Keeps f (a, 0)) : Keeps f ((a.natAbs : Int), 0) := by
  rcases Int.natAbs_eq a with e | e
  · rw [← e]; exact h
  · have := h.neg
    rw [show ((-((a, 0) : Pt).1, -((a, 0) : Pt).2) : Pt) = ((a.natAbs : Int), 0) from Prod.ext (by show -a = _; omega) (by show -(0 : Int) = 0; omega)] at this
    exact this
theorem keeps_ngcd {f : Pt → Nat} (a b : Nat) : Keeps f ((a : Int), 0) → Keeps f ((b : Int), 0) → Keeps f ((Nat.gcd a b : Nat), 0) := by
  induction a, b using Nat.gcd.induction with
  | H0 n => intro _ h; rw [Nat.gcd_zero_left]; exact h
  | H1 m n _ ih =>
    intro h1 h2
    rw [Nat.gcd_rec]
    refine ih ?_ h1
    have := keeps_emod h2 h1
    rwa [← Int.natCast_emod] at this
theorem keeps_gcd {f : Pt → Nat} {a b : Int} (h1 : Keeps f (a, 0)) (h2 : Keeps f (b, 0)) : Keeps f ((Int.gcd a b : Nat), 0) := keeps_ngcd _ _ (keeps_abs h1) (keeps_abs h2)
theorem w_int {Q : VK} {H : Hp} {k : Bool} (q : Q (.int (if k then 1 else 0)) H) : (fun (xs : List V) (H : Hp) (Q : VK) => (∃ i, xs = [.int i] ∧ Q (.int i) H) ∨ ∃ k, xs = [.bl k] ∧ Q (.int (if k then 1 else 0)) H) [.bl k] H Q := .inr ⟨k, rfl, q⟩
section
variable {P : Program} {w : World} {K : PySem.W.Frag} {mg : Str → Option Value} {base : Heap}
def sp__law_divisor (K : PySem.W.Frag) : Sp := fun vs H Q _ => ∃ a b : Int, vs = [.int a, .int b] ∧ Q (.int (Int.gcd a b : Nat)) H
theorem ok__law_divisor (T : Tx K mg) : FnR P w K mg base CX0 1 (He.ga K "_law_divisor") (sp__law_divisor K) := by
  refine fnr_of T.f__law_divisor sc__law_divisor (fun _ _ _ _ _ _ us hl => match us, hl with | [_, _], _ => rfl) (fun vs H Q E h => by obtain ⟨_, _, rfl, _⟩ := h; rfl) (fun cdv A outer s H vs Q E hr h => ?_)
  have nd := sc__law_divisor.nd
  refine ⟨_, (pss_cons (ps_while PassesOwn.never (pt_cmpR op_ne (pv 1) pe_int (nomark _)) (pss_one (ps_par (i := 0) (j := 1) rfl nd rfl rfl (by decide) rfl rfl (pa_cons (pv 1) (pa_cons (pe_op op_modN (pv 0) (pv 1)) pa_nil)) rfl)))
    (pss_one (ps_ret (pe_callB call_abs rfl T.b_abs bo_abs (pa_cons (pv 0) pa_nil))))), ?_⟩
  try dsimp only [cxOf]
  obtain ⟨a, b, rfl, q⟩ := h
  tm_at "sx"
  refine ⟨fun m σ H' => ∃ x y : Int, σ = [some (.int x), some (.int y)] ∧ y.natAbs = m ∧ Int.gcd x y = Int.gcd a b ∧ H' = H, ⟨b.natAbs, a, b, rfl, rfl, rfl, rfl⟩, fun m σ H' hW => ?_⟩
  obtain ⟨x, y, rfl, rfl, hg, rfl⟩ := hW
  tm_at "sx"
  refine ⟨_, rfl, ?_⟩
  by_cases hy : y = 0
  · rw [decide_eq_true hy]
    refine w_ff ?_
    tm_at "sx"
    refine ⟨x, rfl, ?_⟩
    rw [abs_nat]
    rw [hy, Int.gcd_zero_right] at hg
    rw [hg]; exact q
  · rw [decide_eq_false hy]
    refine w_tt ⟨fun σ H1 => σ = [some (.int y), some (.int (x.fmod y))] ∧ H1 = H', fun σ H1 ⟨e1, e2⟩ => ⟨(x.fmod y).natAbs, fmod_abs x hy, y, x.fmod y, e1, rfl, ?_, e2⟩, ?_⟩
    · rw [← hg, Int.fmod_def, Int.gcd_sub_mul_left_right, Int.gcd_comm]
    · tm_at "sx"
      refine w_iC hy ?_
      tm_at "sx"
      exact ⟨_, _, rfl, rfl, rfl⟩
/-- what the law's own net tells -/
structure NetP (B : Nat) (ps : List Pt) (N : T3) : Prop where
  nv : NV N
  c2 : N.2.2 ≤ B
  all : ∀ p ∈ ps, InL N p
  kp : ∀ f : Pt → Nat, (∀ p ∈ ps, Keeps f p) → Keeps f (N.1, 0) ∧ Keeps f (N.2.1, N.2.2)
def sp__law_net_of (K : PySem.W.Frag) : Sp := fun vs H Q _ => ∃ (l : Addr) (us : List V) (ps : List Pt) (B : Nat) (a0 b0 c0 : Int), vs = [.ref l] ∧ SqL K H l us ∧ Ps H us ps ∧ B < 1000000 ∧ (∀ p ∈ ps, p.2.natAbs ≤ B) ∧ (a0, 0) ∈ ps ∧ (b0, c0) ∈ ps ∧ 1 ≤ a0 ∧ 1 ≤ c0 ∧
  ∀ N t H', Same H H' → NetP B ps N → H' t = some (tup3 N) → Q (.ref t) H'
theorem ok__law_net_of (T : Tx K mg) : FnR P w K mg base CX0 2 (He.ga K "_law_net_of") (sp__law_net_of K) := by
  refine fnr_of T.f__law_net_of sc__law_net_of (fun _ _ _ _ _ _ us hl => match us, hl with | [_], _ => rfl) (fun vs H Q E h => by obtain ⟨_, _, _, _, _, _, _, rfl, _⟩ := h; rfl) (fun cdv A outer s H vs Q E hr h => ?_)
  have nd := sc__law_net_of.nd
  refine ⟨_, (pss_cons (ps_asg (pe_tupS (pa_cons pe_int (pa_cons (pe_tupS (pa_cons pe_int (pa_cons pe_int pa_nil))) pa_nil))) (pg_tup rfl (pgs_cons (pg_name (i := 1) nd rfl (Or.inl rfl)) (pgs_cons (pg_name (i := 2) nd rfl (Or.inl rfl)) pgs_nil))))
    (pss_cons (ps_for PassesOwn.never rfl (pi_list (pv 0)) (pg_name (i := 3) nd rfl (Or.inl rfl)) (pss_cons (ps_set (i := 4) nd rfl (Or.inl rfl) (pv 3))
    (pss_cons (ps_while PassesOwn.never (pt_cmpR op_ne (pe_ix ix_tup (pv 4) pe_int (fun _ _ => rfl)) pe_int (nomark _)) (pss_cons (ps_set (i := 5) nd rfl (Or.inl rfl) (pe_op op_fdivN (pe_ix ix_tup (pv 2) pe_int (fun _ _ => rfl)) (pe_ix ix_tup (pv 4) pe_int (fun _ _ => rfl))))
    (pss_one (ps_par (i := 2) (j := 4) rfl nd rfl rfl (by decide) rfl rfl (pa_cons (pv 4) (pa_cons (pe_tupS (pa_cons (pe_op op_sub (pe_ix ix_tup (pv 2) pe_int (fun _ _ => rfl)) (pe_op op_mul (pv 5) (pe_ix ix_tup (pv 4) pe_int (fun _ _ => rfl)))) (pa_cons (pe_op op_sub (pe_ix ix_tup (pv 2) pe_int (fun _ _ => rfl)) (pe_op op_mul (pv 5) (pe_ix ix_tup (pv 4) pe_int (fun _ _ => rfl)))) pa_nil))) pa_nil)) rfl))))
    (pss_one (ps_set (i := 1) nd rfl (Or.inl rfl) (pe_callR (ok__law_divisor T) (hr.mono (by decide)) rfl T.g__law_divisor T.k__law_divisor (pa_cons (pv 1) (pa_cons (pe_ix ix_tup (pv 4) pe_int (fun _ _ => rfl)) pa_nil))))))))
    (pss_cons (ps_if (PW.pt (pw_or (pt_cmpR op_eq (pv 1) pe_int (nomark _)) (pw_or1 (pt_cmpR op_eq (pe_ix ix_tup (pv 2) pe_int (fun _ _ => rfl)) pe_int (nomark _))))) (pss_one (ps_ret pe_non)) pss_nil)
    (pss_one (ps_ret (pe_tupS (pa_cons (pv 1) (pa_cons (pe_op op_modN (pe_op op_mul (pe_ix ix_tup (pv 2) pe_int (fun _ _ => rfl)) (pe_ix ix_list (pe_lstS (pa_cons pe_int (pa_cons (pe_un un_neg pe_int) pa_nil))) (pe_callTy call_int1 rfl T.b_int bo_int (pa_cons (pe_cmpR op_lt (pe_ix ix_tup (pv 2) pe_int (fun _ _ => rfl)) pe_int (nomark _)) pa_nil)) (fun _ _ => rfl))) (pv 1)) (pa_cons (pe_callB call_abs rfl T.b_abs bo_abs (pa_cons (pe_ix ix_tup (pv 2) pe_int (fun _ _ => rfl)) pa_nil)) pa_nil))))))))), ?_⟩
  try dsimp only [cxOf]
  obtain ⟨l, us, ps, B, a0, b0, c0, rfl, hl, hps, hB, hy, m1, m2, ha0, hc0, q⟩ := h
  tm_at "sx"
  refine ⟨by show 2 ≤ sizeLine; decide, fun z0 Hz nz sz ez => ?_⟩
  tm_at "sx"
  refine ⟨by show 2 ≤ sizeLine; decide, fun t0 H0 nt s0 e0 => ?_⟩
  tm_at "sx"
  have sz0 : Same H H0 := Same.trans sz s0
  refine ⟨l, rfl, ⟨us, Same.upL sz0 hl⟩, ?_⟩
  have ez0 := s0 _ _ ez
  refine for_list (xs := us) (fun i σ H' => ∃ (a : Nat) (lo : Addr) (b c : Int) (o3 o4 o5 : Option V), σ = [some (.ref l), some (.int a), some (.ref lo), o3, o4, o5] ∧ Same H0 H' ∧ H' lo = some (tup2 (b, c)) ∧ c.natAbs ≤ B ∧ (∀ p ∈ ps.take i, Lat a b c p) ∧ ∀ f : Pt → Nat, (∀ p ∈ ps, Keeps f p) → Keeps f ((a : Int), 0) ∧ Keeps f (b, c))
    ⟨0, z0, 0, 0, none, none, none, rfl, Same.refl _, ez0, Nat.zero_le _, fun p hp => (by simp at hp), fun f _ => ⟨Keeps.zero f, Keeps.zero f⟩⟩ (fun i σ H' _ hI => ?_) (fun i x σ H' hx hI => ?_) (fun σ H' hI => ?_)
  · obtain ⟨a, lo, b, c, o3, o4, o5, _, s1, _⟩ := hI
    exact Same.upL s1 (Same.upL sz0 hl)
  · obtain ⟨a, lo, b, c, o3, o4, o5, rfl, s1, hlo, hc, hL, hK⟩ := hI
    obtain ⟨bx, p, rfl, hbx, hpi⟩ := (hps.same (Same.trans sz0 s1)).at hx
    have hpm := List.mem_of_getElem? hpi
    tm_at "sx"
    refine ⟨fun m σ H2 => ∃ (lo fa : Addr) (b c x y : Int) (o3 o5 : Option V), σ = [some (.ref l), some (.int a), some (.ref lo), o3, some (.ref fa), o5] ∧ y.natAbs = m ∧ Same H0 H2 ∧ H2 lo = some (tup2 (b, c)) ∧ H2 fa = some (tup2 (x, y)) ∧ c.natAbs ≤ B ∧ y.natAbs ≤ B ∧ (∀ q ∈ ps.take (i + 1), ∃ u v z : Int, q = (u * a + v * b + z * x, v * c + z * y)) ∧ ∀ f : Pt → Nat, (∀ p ∈ ps, Keeps f p) → Keeps f ((a : Int), 0) ∧ Keeps f (b, c) ∧ Keeps f (x, y),
      ⟨_, lo, bx, b, c, p.1, p.2, _, o5, rfl, rfl, s1, hlo, hbx, hc, hy p hpm, fun q hq => ?_, fun f hf => ⟨(hK f hf).1, (hK f hf).2, hf p hpm⟩⟩, fun m σ H2 hW => ?_⟩
    · rw [List.take_add_one, hpi] at hq
      rcases List.mem_append.mp hq with hq | hq
      · obtain ⟨u, v, e⟩ := hL q hq
        exact ⟨u, v, 0, by rw [e]; simp⟩
      · obtain rfl : q = p := by simpa using hq
        exact ⟨0, 0, 1, by simp⟩
    · obtain ⟨lo, fa, b, c, x, y, o3, o5, rfl, rfl, s2, hlo, hfa, hc, hyB, hL, hK⟩ := hW
      tm_at "sx"
      refine ⟨_, rfl, ?_⟩
      by_cases h0 : y = 0
      · subst h0
        refine w_ff ?_
        tm_at "sx"
        refine ⟨_, _, rfl, ?_⟩
        refine ⟨Int.gcd a x, lo, b, c, _, _, _, rfl, s2, hlo, hc, fun q hq => ?_, fun f hf => ⟨keeps_gcd (hK f hf).1 (hK f hf).2.2, (hK f hf).2.1⟩⟩
        obtain ⟨u, v, z, e⟩ := hL q hq
        obtain ⟨a', ea⟩ := Int.gcd_dvd_left (a := (a : Int)) (b := x)
        obtain ⟨x', ex⟩ := Int.gcd_dvd_right (a := (a : Int)) (b := x)
        refine ⟨u * a' + z * x', v, ?_⟩
        rw [e]
        refine Prod.ext ?_ ?_
        · show u * a + v * b + z * x = (u * a' + z * x') * (Int.gcd a x : Int) + v * b
          generalize (Int.gcd (a : Int) x : Int) = g at ea ex
          rw [ea, ex]; grind
        · show v * c + z * 0 = v * c
          omega
      · rw [decide_eq_false h0]
        have hq := fdiv_abs c h0
        have hm := fmod_abs c h0
        refine w_tt ⟨fun σ H' => ∃ (lo fa : Addr) (b c x y' : Int) (o3 o5 : Option V), σ = [some (.ref l), some (.int a), some (.ref lo), o3, some (.ref fa), o5] ∧ y'.natAbs < y.natAbs ∧ Same H0 H' ∧ H' lo = some (tup2 (b, c)) ∧ H' fa = some (tup2 (x, y')) ∧ c.natAbs ≤ B ∧ (∀ q ∈ ps.take (i + 1), ∃ u v z : Int, q = (u * a + v * b + z * x, v * c + z * y')) ∧ ∀ f : Pt → Nat, (∀ p ∈ ps, Keeps f p) → Keeps f ((a : Int), 0) ∧ Keeps f (b, c) ∧ Keeps f (x, y'),
          fun σ H' ⟨lo, fa, b, c, x, y', o3, o5, e, hlt, s, h1, h2, hc, hL, hK⟩ => ⟨_, hlt, lo, fa, b, c, x, y', o3, o5, e, rfl, s, h1, h2, hc, by omega, hL, hK⟩, ?_⟩
        tm_at "sx"
        refine w_iC ⟨h0, by omega⟩ ?_
        tm_at "sx"
        refine w_iC (.inl ⟨by show -(2 ^ 64) < c.fdiv y; omega, by show c.fdiv y < 2 ^ 64; omega⟩) ?_
        tm_at "sx"
        refine w_iC (.inl ⟨by show -(2 ^ 64) < c.fdiv y; omega, by show c.fdiv y < 2 ^ 64; omega⟩) ?_
        tm_at "sx"
        refine ⟨by show 2 ≤ sizeLine; decide, fun t4 H4 nt4 s4 e4 => ?_⟩
        tm_at "sx"
        refine ⟨_, _, rfl, ?_⟩
        refine ⟨fa, t4, x, y, b - c.fdiv y * x, c - c.fdiv y * y, _, _, rfl, by rw [fmod_sub]; exact hm, Same.trans s2 s4, s4 _ _ hfa, e4, hyB, fun q hq => ?_, fun f hf => ⟨(hK f hf).1, (hK f hf).2.2, keeps_mod (hK f hf).2.1 (hK f hf).2.2 _⟩⟩
        obtain ⟨u, v, z, e⟩ := hL q hq
        refine ⟨u, z + v * c.fdiv y, v, ?_⟩
        rw [e]
        refine Prod.ext ?_ ?_
        · show u * a + v * b + z * x = u * a + (z + v * c.fdiv y) * x + v * (b - c.fdiv y * x)
          generalize c.fdiv y = t
          grind
        · show v * c + z * y = (z + v * c.fdiv y) * y + v * (c - c.fdiv y * y)
          generalize c.fdiv y = t
          grind
  · obtain ⟨a, lo, b, c, o3, o4, o5, rfl, s1, hlo, hc, hL, hK⟩ := hI
    have hlen : us.length = ps.length := hps.len
    rw [hlen, List.take_length] at hL
    have sH := Same.trans sz0 s1
    have hcn : c ≠ 0 := fun z => by
      obtain ⟨u, v, e⟩ := hL _ m2
      have e2 : c0 = v * c := congrArg Prod.snd e
      rw [z, Int.mul_zero] at e2
      omega
    have han : (a : Int) ≠ 0 := fun z => by
      obtain ⟨u, v, e⟩ := hL _ m1
      have e1 : a0 = u * (a : Int) + v * b := congrArg Prod.fst e
      have e2 : (0 : Int) = v * c := congrArg Prod.snd e
      have v0 : v = 0 := (Int.mul_eq_zero.mp e2.symm).resolve_right hcn
      rw [z, v0, Int.mul_zero, Int.zero_mul] at e1
      omega
    tm_at "sx"
    refine ⟨_, rfl, ?_⟩
    rw [decide_eq_false han]
    refine w_ff ?_
    tm_at "sx"
    refine ⟨_, rfl, ?_⟩
    rw [decide_eq_false hcn]
    refine w_ff ?_
    tm_at "sx"
    refine ⟨by show 2 ≤ sizeLine; decide, fun sl H2 n2 s2 e2 => ?_⟩
    have hlo2 := s2 _ _ hlo
    tm_at "sx"
    refine .inr ⟨_, rfl, ?_⟩
    show rIxL K (.ref sl) (.int (if decide (c < 0) = true then 1 else 0)) H2 _
    have fin : ∀ (sg : Int), (sg = 1 ∨ sg = -1) → (sg * c).natAbs = c.natAbs → 0 < sg * c → ∀ (t : Addr) (H' : Hp), Same H2 H' → H' t = some (tup3 (a, (b * sg).fmod a, (c.natAbs : Int))) → Q (.ref t) H' := fun sg hs h1 hpos t H' s3 e3 => by
      have hsc : sg * c = (c.natAbs : Int) := by omega
      refine q (a, (b * sg).fmod a, (c.natAbs : Int)) t H' (Same.trans sH (Same.trans s2 s3)) ⟨⟨by show (1 : Int) ≤ (a : Int); omega, Int.fmod_nonneg_of_pos _ (by omega), Int.fmod_lt_of_pos _ (by omega), by show (1 : Int) ≤ (c.natAbs : Int); omega⟩, by show (c.natAbs : Int) ≤ B; omega, fun p hp => ?_, fun f hf => ⟨(hK f hf).1, ?_⟩⟩ e3
      · obtain ⟨u, v, e⟩ := hL p hp
        refine ⟨u + v * sg * (b * sg).fdiv a, v * sg, ?_⟩
        rw [e]
        have hss : sg * sg = 1 := by rcases hs with rfl | rfl <;> rfl
        refine Prod.ext ?_ ?_
        · show u * a + v * b = (u + v * sg * (b * sg).fdiv a) * a + v * sg * (b * sg).fmod a
          have e3 := Int.fdiv_mul_self (b * sg) a
          have e4 : (u + v * sg * (b * sg).fdiv a) * a + v * sg * (b * sg).fmod a = u * a + v * sg * ((b * sg).fdiv a * a + (b * sg).fmod a) := by grind
          rw [e4, show (b * sg).fdiv a * a + (b * sg).fmod a = b * sg by omega]
          have e5 : v * sg * (b * sg) = v * b * (sg * sg) := by grind
          rw [e5, hss, Int.mul_one]
        · show v * c = v * sg * (c.natAbs : Int)
          rw [← hsc]
          have e5 : v * sg * (sg * c) = v * c * (sg * sg) := by grind
          rw [e5, hss, Int.mul_one]
      · have k1 := (hK f hf).2.mul sg
        have k2 := keeps_mod k1 (hK f hf).1 ((b * sg).fdiv a)
        have e5 : ((sg * (b, c).1 - (b * sg).fdiv a * (a : Int), sg * (b, c).2 - (b * sg).fdiv a * 0) : Pt) = ((b * sg).fmod a, (c.natAbs : Int)) := by
          refine Prod.ext ?_ ?_
          · show sg * b - (b * sg).fdiv a * (a : Int) = (b * sg).fmod a
            rw [Int.fmod_def, Int.mul_comm sg, Int.mul_comm (a : Int)]
          · show sg * c - (b * sg).fdiv a * 0 = _
            rw [Int.mul_zero, Int.sub_zero, hsc]
        rwa [e5] at k2
    by_cases hneg : c < 0
    · rw [decide_eq_true hneg]
      refine w_ixL (sl_of e2) (atI_nat (j := 1) rfl) ?_
      show rI CMul (fun i j => V.int (i * j)) (.int b) (.int (-1)) H2 _
      refine w_iC (.inr ⟨by decide, by decide⟩) ?_
      tm_at "sx"
      refine w_iC han ?_
      tm_at "sx"
      refine ⟨c, rfl, ?_⟩
      tm_at "sx"
      refine ⟨by show 3 ≤ sizeLine; decide, fun t H3 nt3 s3 e3 => fin (-1) (.inr rfl) (by omega) (by omega) t H3 s3 ?_⟩
      rw [abs_nat] at e3
      exact e3
    · rw [decide_eq_false hneg]
      refine w_ixL (sl_of e2) (atI_nat (j := 0) rfl) ?_
      show rI CMul (fun i j => V.int (i * j)) (.int b) (.int 1) H2 _
      refine w_iC (.inr ⟨by decide, by decide⟩) ?_
      tm_at "sx"
      refine w_iC han ?_
      tm_at "sx"
      refine ⟨c, rfl, ?_⟩
      tm_at "sx"
      refine ⟨by show 3 ≤ sizeLine; decide, fun t H3 nt3 s3 e3 => fin 1 (.inl rfl) (by omega) (by omega) t H3 s3 ?_⟩
      rw [abs_nat] at e3
      exact e3
end
end Cp
set_option Elab.async false
set_option linter.all false
set_option maxRecDepth 100000
set_option maxHeartbeats 2000000
/-! F27: the least cell, as the law finds it. -/
namespace Cp
open PySem PySem.Spec PyProof.Rows L2
local macro_rules | `(tactic| tm_at "fact") => `(tactic| first
  | assumption
  | (apply Same.up; · assumption
     tm_at "fact")
  | (apply Same.upS; · assumption
     tm_at "fact")
  | (apply Same.upL; · assumption
     tm_at "fact")
  | (apply sq_of; tm_at "fact")
  | (apply sl_of; tm_at "fact")
  | (apply Chg.up; · assumption
     · tm_at "fact"
     · exact fun z => nomatch z)
  | (apply Chg.upS; · assumption
     · tm_at "fact"
     · exact fun _ z => nomatch z
     · exact fun _ _ z => nomatch z))
local macro_rules | `(tactic| tm_at "same") => `(tactic| first
  | assumption
  | exact Same.refl _
  | (refine Same.trans ?_ ?_; rotate_left; · assumption
     tm_at "same"))
local macro_rules | `(tactic| tm_at "sx1") => `(tactic| with_reducible first
  | refine w_var rfl ?_
  | refine w_c ?_
  | refine w_op ?_
  | refine w_seq ?_
  | refine w_asg ?_
  | refine w_gname ?_
  | refine w_ret ?_
  | refine w_nil ?_
  | refine w_cons ?_
  | refine w_tup ?_
  | refine w_lst ?_
  | refine w_cb ?_
  | refine w_callR ?_
  | refine w_i0 ?_
  | refine w_gcons ?_
  | refine w_gnil ?_
  | refine w_test ?_
  | refine w_not ?_
  | refine w_ifs ?_
  | refine w_if ?_
  | refine w_expr ?_
  | refine w_eqI ?_
  | refine w_neI ?_
  | refine w_eqS ?_
  | refine w_neS ?_
  | refine w_or ?_
  | refine w_and ?_
  | refine w_par3 ?_
  | refine w_andV ?_
  | refine w_notV ?_
  | refine w_lcS ?_
  | refine w_forE ?_
  | refine w_m1 ?_
  | refine w_forL ?_
  | refine w_forR1 ?_
  | refine w_isN ?_
  | refine w_notN ?_
  | refine w_fld ?_
  | refine w_methR ?_
  | refine w_propR ?_
  | refine w_propA ?_
  | refine w_methA ?_
  | refine w_subA ?_
  | refine w_makeS ?_
  | refine w_fldS ?_
  | refine w_chain ?_
  | refine w_orV ?_
  | refine w_next ?_
  | refine w_tB ?_
  | refine w_lcL ?_
  | refine w_lcT ?_
  | refine w_lcR1 ?_
  | refine w_lcR2 ?_
  | refine w_turn ?_
  | refine w_yes ?_
  | refine w_par ?_
  | refine w_uI ?_
  | refine w_un ?_
  | refine w_one ?_)
local macro_rules | `(tactic| tm_at "at") => `(tactic| first | exact rfl | exact atI_nat rfl)
local macro_rules | `(tactic| tm_at "ix") => `(tactic| first
  | (with_reducible apply w_ixT; · tm_at "fact"
     · tm_at "at")
  | (with_reducible apply w_ixL; · tm_at "fact"
     · tm_at "at")
  | (with_reducible apply w_gtup; · tm_at "fact"
     · exact rfl))
local macro_rules | `(tactic| tm_at "sx") => `(tactic| repeat (first | tm_at "sx1" | tm_at "ix"))
theorem colr_mem {n : T3} {L : List Nat} (ok : TOk n L) (p : Pt) : colr n L p ∈ L := by
  have h1 := (ix_rng ok.net p).2
  have h2 := ok.len
  have hlt : ixOf n p < L.length := by omega
  unfold colr
  rw [List.getD_eq_getElem?_getD, List.getElem?_eq_getElem hlt]
  exact List.getElem_mem hlt
/-- the net that the law finds is exact -/
theorem exact_of {n N : T3} {L : List Nat} (tok : TOk n L) (hN : NV N) (h1 : InL N (n.1, 0)) (h2 : InL N (n.2.1, n.2.2)) (h3 : ∀ s ∈ cellL n, keptB n L s = true → InL N s) (g1 : Keeps (colr n L) (N.1, 0)) (g2 : Keeps (colr n L) (N.2.1, N.2.2)) :
    Exact N ((cellL N).map (colr n L)) ∧ N.1 ≤ n.1 ∧ N.2.2 ≤ n.2.2 ∧ N.1 * N.2.2 ≤ n.1 * n.2.2 := by
  have ok := tok.net
  have a1 := ok.a1; have c1 := ok.c1
  have A1 := hN.a1; have C1 := hN.c1
  have hc : N.2.2 ≤ n.2.2 := by
    obtain ⟨u, v, e⟩ := h2
    have e2 : n.2.2 = v * N.2.2 := congrArg Prod.snd e
    exact Int.le_of_dvd (by omega) ⟨v, by rw [e2, Int.mul_comm]⟩
  have ha : N.1 ≤ n.1 := by
    obtain ⟨u, v, e⟩ := h1
    have e1 : n.1 = u * N.1 + v * N.2.1 := congrArg Prod.fst e
    have e2 : (0 : Int) = v * N.2.2 := congrArg Prod.snd e
    have v0 : v = 0 := (Int.mul_eq_zero.mp e2.symm).resolve_right (by omega)
    rw [v0, Int.zero_mul, Int.add_zero] at e1
    exact Int.le_of_dvd (by omega) ⟨u, by rw [e1, Int.mul_comm]⟩
  have hz : N.1 * N.2.2 ≤ n.1 * n.2.2 := Int.le_trans (Int.mul_le_mul_of_nonneg_left hc (by omega)) (Int.mul_le_mul_of_nonneg_right ha (by omega))
  have Nok : NOk N := ⟨A1, hN.b0, hN.ba, C1, Int.le_trans hz ok.sz⟩
  have sub : ∀ t, InL n t → InL N t := fun t ht => by
    obtain ⟨u, v, rfl⟩ := ht
    obtain ⟨u1, v1, e1⟩ := h1
    obtain ⟨u2, v2, e2⟩ := h2
    have x1 : n.1 = u1 * N.1 + v1 * N.2.1 := congrArg Prod.fst e1
    have y1 : (0 : Int) = v1 * N.2.2 := congrArg Prod.snd e1
    have x2 : n.2.1 = u2 * N.1 + v2 * N.2.1 := congrArg Prod.fst e2
    have y2 : n.2.2 = v2 * N.2.2 := congrArg Prod.snd e2
    refine ⟨u * u1 + v * u2, u * v1 + v * v2, Prod.ext ?_ ?_⟩
    · show u * n.1 + v * n.2.1 = (u * u1 + v * u2) * N.1 + (u * v1 + v * v2) * N.2.1
      rw [x1, x2]; grind
    · show v * n.2.2 = (u * v1 + v * v2) * N.2.2
      have : (u * v1 + v * v2) * N.2.2 = u * (v1 * N.2.2) + v * (v2 * N.2.2) := by grind
      rw [this, ← y1, ← y2]; omega
  have hcol : ∀ p, colr N ((cellL N).map (colr n L)) p = colr n L p := fun p => by
    rw [map_colr Nok]
    have := Keeps.lat g1 g2 (low_diff hN p) (low N p)
    rw [padd_psub] at this
    exact this.symm
  refine ⟨⟨⟨Nok, by rw [List.length_map, cellL_len, Nok.nat]⟩, fun t ht => ?_⟩, ha, hc, hz⟩
  have kt : Keeps (colr n L) t := fun p => by rw [← hcol, ← hcol]; exact ht p
  have d := low_diff ok.nv t
  have kl : Keeps (colr n L) (low n t) := by
    have := kt.add (colr_keeps ok.nv d.neg)
    have e : padd t (-(psub t (low n t)).1, -(psub t (low n t)).2) = low n t := Prod.ext (by show t.1 + -(t.1 - (low n t).1) = (low n t).1; omega) (by show t.2 + -(t.2 - (low n t).2) = (low n t).2; omega)
    rwa [e] at this
  have := (h3 _ (low_cell ok t) ((keptB_iff ok).mpr kl)).add (sub _ d)
  rwa [padd_psub] at this
/-- a net and a text, as a tuple -/
def NsV (H : Hp) (t : Addr) (n : T3) (L : List Nat) : Prop := ∃ a, H t = some (.tup [.ref a, .str (txt L)]) ∧ H a = some (tup3 n)
theorem NsV.same {H H' : Hp} {t : Addr} {n : T3} {L : List Nat} (s : Same H H') (h : NsV H t n L) : NsV H' t n L := let ⟨a, h1, h2⟩ := h; ⟨a, s _ _ h1, s _ _ h2⟩
section
variable {P : Program} {w : World} {K : PySem.W.Frag} {mg : Str → Option Value} {base : Heap}
def sp__law_exact (K : PySem.W.Frag) : Sp := fun vs H Q _ => ∃ (t : Addr) (n : T3) (L : List Nat), vs = [.ref t, .str (txt L)] ∧ H t = some (tup3 n) ∧ TOk n L ∧
  ∀ u N X H', Same H H' → NsV H' u N X → Exact N X → N.1 ≤ n.1 → N.2.2 ≤ n.2.2 → N.1 * N.2.2 ≤ n.1 * n.2.2 → (∀ c ∈ X, c ∈ L) → Q (.ref u) H'
theorem ok__law_exact (T : Tx K mg) : FnR P w K mg base CX0 4 (He.ga K "_law_exact") (sp__law_exact K) := by
  refine fnr_of T.f__law_exact sc__law_exact (fun _ _ _ _ _ _ us hl => match us, hl with | [_, _], _ => rfl) (fun vs H Q E h => by obtain ⟨_, _, _, rfl, _⟩ := h; rfl) (fun cdv A outer s H vs Q E hr h => ?_)
  have nd := sc__law_exact.nd
  refine ⟨_, (pss_cons (ps_set (i := 2) nd rfl (Or.inl rfl) (pe_lstS (pa_cons (pe_tupS (pa_cons (pe_ix ix_tup (pv 0) pe_int (fun _ _ => rfl)) (pa_cons pe_int pa_nil))) (pa_cons (pe_tupS (pa_cons (pe_ix ix_tup (pv 0) pe_int (fun _ _ => rfl)) (pa_cons (pe_ix ix_tup (pv 0) pe_int (fun _ _ => rfl)) pa_nil))) pa_nil))))
    (pss_cons (ps_for PassesOwn.never rfl (pi_list (pe_callR (ok__law_spots T) (hr.mono (by decide)) rfl T.g__law_spots T.k__law_spots (pa_cons (pv 0) pa_nil))) (pg_name (i := 3) nd rfl (Or.inl rfl)) (pss_one (ps_if (pt_val (pe_callR (ok__law_is_kept T) (hr.mono (by decide)) rfl T.g__law_is_kept T.k__law_is_kept (pa_cons (pv 0) (pa_cons (pv 1) (pa_cons (pe_tupS (pa_cons pe_str (pa_cons (pv 3) pa_nil))) pa_nil))))) (pss_one (ps_expr (pe_bm PySem.F.plainAttrs_list PySem.F.slot_list_append PySem.F.type_list_append mt_append (pv 2) (pa_cons (pv 3) pa_nil)))) pss_nil)))
    (pss_cons (ps_set (i := 4) nd rfl (Or.inl rfl) (pe_callR (ok__law_net_of T) (hr.mono (by decide)) rfl T.g__law_net_of T.k__law_net_of (pa_cons (pv 2) pa_nil)))
    (pss_one (ps_ret (pe_tupS (pa_cons (pv 4) (pa_cons (pe_join pe_str (pe_lcL (own := [("_law_spot", 5)]) (g := (gName 5)) rfl nd (pe_callR (ok__law_spots T) (hr.mono (by decide)) rfl T.g__law_spots T.k__law_spots (pa_cons (pv 4) pa_nil)) (blkOk_by (N := N_law_exact) (sc := defScope s_law_exact) (by decide +kernel)) (fun _ _ _ _ _ => (pg_name (i := 5) nd rfl (Or.inl rfl))) (fun _ _ _ _ _ => pts_nil) (fun _ _ _ _ _ => (pe_callR (ok__law_seen T) (hr.mono (by decide)) rfl T.g__law_seen T.k__law_seen (pa_cons (pv 0) (pa_cons (pv 1) (pa_cons (pv 5) pa_nil))))))) pa_nil)))))))), ?_⟩
  try dsimp only [cxOf]
  obtain ⟨t, n, L, rfl, ht, ok, q⟩ := h
  have hsl := sizeLine_eq
  have a1 := ok.net.a1; have a2 := ok.net.a2; have c1 := ok.net.c1; have c2 := ok.net.c2
  have b0 := ok.net.b0; have ba := ok.net.ba
  have hnat := ok.net.nat; have hsz := ok.net.sz
  have hcl : (cellL n).length ≤ 4000 := by rw [cellL_len]; omega
  tm_at "sx"
  refine ⟨by show 2 ≤ sizeLine; decide, fun k1 H1 nk1 s1 e1 => ?_⟩
  tm_at "sx"
  refine ⟨by show 2 ≤ sizeLine; decide, fun k2 H2 nk2 s2 e2 => ?_⟩
  tm_at "sx"
  refine ⟨by show 2 ≤ sizeLine; decide, fun kl H3 nkl s3 e3 => ?_⟩
  tm_at "sx"
  have f1 : H3 k1 = some (tup2 (n.1, 0)) := by tm_at "fact"
  have f2 : H3 k2 = some (tup2 (n.2.1, n.2.2)) := by tm_at "fact"
  have s03 : Same H H3 := Same.trans s1 (Same.trans s2 s3)
  have nklH : H kl = none := by
    cases z : H kl with
    | none => rfl
    | some u => rw [s2 _ _ (s1 _ _ z)] at nkl; cases nkl
  refine ⟨t, n, rfl, s03 _ _ ht, ok.net, fun l us H4 nl s4 e4 p4 => ?_⟩
  refine ⟨l, rfl, ⟨us, sl_of e4⟩, ?_⟩
  have nlk : l ≠ kl := fun z => by subst z; rw [e3] at nl; cases nl
  have hul : us.length = (cellL n).length := p4.len
  refine for_list (xs := us) (fun i σ H' => ∃ (ks : List V) (o3 o4 o5 : Option V), σ = [some (.ref t), some (.str (txt L)), some (.ref kl), o3, o4, o5] ∧ Same H H' ∧ H' kl = some (.lst ks) ∧ Ps H' ks ([(n.1, 0), (n.2.1, n.2.2)] ++ ((cellL n).take i).filter (keptB n L)) ∧ H' l = some (.lst us) ∧ Ps H' us (cellL n))
    ⟨_, none, none, none, rfl, Same.trans s03 s4, s4 _ _ e3, .cons ⟨k1, rfl, s4 _ _ f1⟩ (.cons ⟨k2, rfl, s4 _ _ f2⟩ .nil), e4, p4⟩ (fun i σ H' _ hI => ?_) (fun i x σ H' hx hI => ?_) (fun σ H' hI => ?_)
  · obtain ⟨_, _, _, _, _, _, _, _, h, _⟩ := hI
    exact sl_of h
  · obtain ⟨ks, o3, o4, o5, rfl, sI, hkl, pk, hl, pI⟩ := hI
    obtain ⟨bx, p, rfl, hbx, hpi⟩ := pI.at hx
    have hil : i < (cellL n).length := (List.getElem?_eq_some_iff.mp hpi).1
    tm_at "sx"
    refine ⟨by show 2 ≤ sizeLine; decide, fun mv H5 n5 s5 e5 => ?_⟩
    tm_at "sx"
    have s05 := Same.trans sI s5
    refine ⟨t, mv, n, L, p, rfl, s05 _ _ ht, ok, ⟨bx, e5, s5 _ _ hbx⟩, fun H6 s6 => ?_⟩
    refine ⟨_, rfl, ?_⟩
    have s56 : Same H' H6 := Same.trans s5 s6
    have hstep : ((cellL n).take (i + 1)).filter (keptB n L) = ((cellL n).take i).filter (keptB n L) ++ (if keptB n L p = true then [p] else []) := by
      rw [List.take_add_one, hpi, List.filter_append]
      congr 1
      by_cases hk : keptB n L p = true <;> simp [hk]
    have pk6 := pk.same s56
    have hkl6 := s56 _ _ hkl
    have pI6 := pI.same s56
    by_cases hk : keptB n L p = true
    · rw [hk]
      refine w_tt ?_
      tm_at "sx"
      have hkl' : ks.length = 2 + (((cellL n).take i).filter (keptB n L)).length := by rw [pk.len, List.length_append]; rfl
      have hfl : (((cellL n).take i).filter (keptB n L)).length ≤ i := Nat.le_trans (List.length_filter_le _ _) (by rw [List.length_take]; omega)
      refine ⟨_, rfl, .inl ⟨rfl, _, sl_of hkl6⟩, ?_⟩
      tm_at "sx"
      refine app_of hkl6 (by omega) fun H7 k7 e7 => ?_
      rw [if_pos hk] at hstep
      rw [hstep, ← List.append_assoc]
      refine ⟨_, _, _, _, rfl, chg_same nklH (Same.trans sI s56) k7, e7, (pk6.chg k7 (fun _ z => nomatch z)).app (Ps.one (k7.up (s56 _ _ hbx) (fun z => nomatch z))), k7.2 _ _ nlk (s56 _ _ hl), pI6.chg k7 (fun _ z => nomatch z)⟩
    · rw [if_neg hk, List.append_nil] at hstep
      rw [hstep]
      rw [Bool.not_eq_true] at hk
      rw [hk]
      refine w_ff ?_
      exact ⟨_, _, _, _, rfl, Same.trans sI s56, hkl6, pk6, s56 _ _ hl, pI6⟩
  · obtain ⟨ks, o3, o4, o5, rfl, sI, hkl, pk, hl, pI⟩ := hI
    rw [hul, List.take_length] at pk
    tm_at "sx"
    refine ⟨kl, ks, _, n.2.2.toNat, n.1, n.2.1, n.2.2, rfl, sl_of hkl, pk, by omega, fun p hp => ?_, by simp, by simp, a1, c1, fun N tN H5 s5 hN e5 => ?_⟩
    · rcases List.mem_append.mp hp with z | z
      · simp only [List.mem_cons, List.not_mem_nil, or_false] at z
        rcases z with rfl | rfl
        · show (0 : Int).natAbs ≤ _; omega
        · show n.2.2.natAbs ≤ _; omega
      · have := mem_cell.mp (List.mem_filter.mp z).1
        omega
    · have hks : ∀ p ∈ [(n.1, 0), (n.2.1, n.2.2)] ++ (cellL n).filter (keptB n L), Keeps (colr n L) p := fun p hp => by
        rcases List.mem_append.mp hp with z | z
        · simp only [List.mem_cons, List.not_mem_nil, or_false] at z
          rcases z with rfl | rfl
          · exact (keptB_iff ok.net).mp (kept_wide L)
          · exact colr_keeps ok.net.nv ⟨0, 1, by simp⟩
        · exact (keptB_iff ok.net).mp (List.mem_filter.mp z).2
      obtain ⟨g1, g2⟩ := hN.kp _ hks
      obtain ⟨hex, r1, r2, r3⟩ := exact_of ok hN.nv (hN.all _ (by simp)) (hN.all _ (by simp)) (fun s hs hk => hN.all _ (List.mem_append_right _ (List.mem_filter.mpr ⟨hs, hk⟩))) g1 g2
      have Nok := hex.tok.net
      have Nnat := Nok.nat; have Nsz := Nok.sz
      tm_at "sx"
      refine ⟨⟨_, rfl⟩, ?_⟩
      tm_at "sx"
      refine ⟨tN, N, rfl, e5, Nok, fun l2 us2 H6 nl2 s6 e6 p6 => ?_⟩
      have hu2 : us2.length = (cellL N).length := p6.len
      have hcN : (cellL N).length ≤ 4000 := by rw [cellL_len]; omega
      refine ⟨l2, _, rfl, sl_of e6, by omega, fun i acc H' => acc = (((cellL N).take i).map fun p => V.str (one1 (colr n L p))), fun _ _ => rfl, fun D i v acc H' hi hx hD s7 e p => ?_, fun D acc H' hD s7 e p => ?_⟩
      · subst p
        obtain ⟨bx, p, rfl, hbx, hpi⟩ := (p6.same s7).at hx
        tm_at "sx"
        refine ⟨rfl, ?_⟩
        tm_at "sx"
        refine ⟨t, bx, n, L, p, rfl, s7 _ _ (s6 _ _ (s5 _ _ (sI _ _ ht))), ok, hbx, fun H8 s8 => ⟨s8 _ _ e, Same.trans s7 s8, fun H9 c s9 => ?_⟩⟩
        rw [List.take_add_one, hpi, List.map_append]; rfl
      · subst p
        rw [hu2, List.take_length] at e
        refine ⟨_, D, ((cellL N).map (colr n L)).map one1, rfl, rfl, .inl (join_sl (sl_of (by rw [List.map_map]; exact e))), join_len _ (by rw [List.length_map]; omega), ?_⟩
        rw [join0]
        tm_at "sx"
        refine ⟨by show 2 ≤ sizeLine; decide, fun t' H8 nt s8 e8 => ?_⟩
        refine q t' N _ H8 (Same.trans sI (Same.trans s5 (Same.trans s6 (Same.trans s7 s8)))) ⟨tN, e8, s8 _ _ (s7 _ _ (s6 _ _ e5))⟩ hex r1 r2 r3 fun c hc => ?_
        obtain ⟨p, _, rfl⟩ := List.mem_map.mp hc
        exact colr_mem ok p
end
end Cp
set_option Elab.async false
set_option linter.all false
set_option maxRecDepth 100000
set_option maxHeartbeats 2000000
/-! F28: the law's own search; edges. -/
namespace Cp
open PySem PySem.Spec PyProof.Rows L2
local macro_rules | `(tactic| tm_at "fact") => `(tactic| first
  | assumption
  | (apply Same.up; · assumption
     tm_at "fact")
  | (apply Same.upS; · assumption
     tm_at "fact")
  | (apply Same.upL; · assumption
     tm_at "fact")
  | (apply sq_of; tm_at "fact")
  | (apply sl_of; tm_at "fact")
  | (apply Chg.up; · assumption
     · tm_at "fact"
     · exact fun z => nomatch z)
  | (apply Chg.upS; · assumption
     · tm_at "fact"
     · exact fun _ z => nomatch z
     · exact fun _ _ z => nomatch z))
local macro_rules | `(tactic| tm_at "same") => `(tactic| first
  | assumption
  | exact Same.refl _
  | (refine Same.trans ?_ ?_; rotate_left; · assumption
     tm_at "same"))
local macro_rules | `(tactic| tm_at "sx1") => `(tactic| with_reducible first
  | refine w_var rfl ?_
  | refine w_c ?_
  | refine w_op ?_
  | refine w_seq ?_
  | refine w_asg ?_
  | refine w_gname ?_
  | refine w_ret ?_
  | refine w_nil ?_
  | refine w_cons ?_
  | refine w_tup ?_
  | refine w_lst ?_
  | refine w_cb ?_
  | refine w_callR ?_
  | refine w_i0 ?_
  | refine w_gcons ?_
  | refine w_gnil ?_
  | refine w_test ?_
  | refine w_not ?_
  | refine w_ifs ?_
  | refine w_if ?_
  | refine w_expr ?_
  | refine w_eqI ?_
  | refine w_neI ?_
  | refine w_eqS ?_
  | refine w_neS ?_
  | refine w_or ?_
  | refine w_and ?_
  | refine w_par3 ?_
  | refine w_andV ?_
  | refine w_notV ?_
  | refine w_lcS ?_
  | refine w_forE ?_
  | refine w_m1 ?_
  | refine w_forL ?_
  | refine w_forR1 ?_
  | refine w_isN ?_
  | refine w_notN ?_
  | refine w_fld ?_
  | refine w_methR ?_
  | refine w_propR ?_
  | refine w_propA ?_
  | refine w_methA ?_
  | refine w_subA ?_
  | refine w_makeS ?_
  | refine w_fldS ?_
  | refine w_chain ?_
  | refine w_orV ?_
  | refine w_next ?_
  | refine w_tB ?_
  | refine w_lcL ?_
  | refine w_lcT ?_
  | refine w_lcR1 ?_
  | refine w_lcR2 ?_
  | refine w_turn ?_
  | refine w_yes ?_
  | refine w_par ?_
  | refine w_uI ?_
  | refine w_un ?_
  | refine w_one ?_)
local macro_rules | `(tactic| tm_at "at") => `(tactic| first | exact rfl | exact atI_nat rfl)
local macro_rules | `(tactic| tm_at "ix") => `(tactic| first
  | (with_reducible apply w_ixT; · tm_at "fact"
     · tm_at "at")
  | (with_reducible apply w_ixL; · tm_at "fact"
     · tm_at "at")
  | (with_reducible apply w_gtup; · tm_at "fact"
     · exact rfl))
local macro_rules | `(tactic| tm_at "sx") => `(tactic| repeat (first | tm_at "sx1" | tm_at "ix"))
section
variable {P : Program} {w : World} {K : PySem.W.Frag} {mg : Str → Option Value} {base : Heap}
def sp__law_gone (K : PySem.W.Frag) : Sp := fun vs H Q _ => ∃ (t a : Addr) (n : T3) (L : List Nat) (p0 : Pt), vs = [.ref t, .str (txt L), .ref a] ∧ H t = some (tup3 n) ∧ TOk n L ∧ H a = some (tup2 p0) ∧ p0 ∈ cellL n ∧
  ∀ u H' (M : List (Pt × Pt)) (S : List Pt) (b : Nat) kn sl kvs, Same H H' → H' u = some (.tup [.ref kn, .ref sl]) → H' kn = some (.dT kvs) → KV H' kvs M → DF n L p0 M S b → Q (.ref u) H'
theorem ok__law_gone (T : Tx K mg) : FnR P w K mg base CX0 3 (He.ga K "_law_gone") (sp__law_gone K) := by
  refine fnr_of T.f__law_gone sc__law_gone (fun _ _ _ _ _ _ us hl => match us, hl with | [_, _, _], _ => rfl) (fun vs H Q E h => by obtain ⟨_, _, _, _, _, rfl, _⟩ := h; rfl) (fun cdv A outer s H vs Q E hr h => ?_)
  have nd := sc__law_gone.nd
  refine ⟨_, (pss_cons (ps_par3 (i := 3) (j := 4) (l := 5) rfl nd rfl rfl rfl (by decide) (by decide) (by decide) rfl rfl rfl (pa_cons (pe_disp1S (hu_of hr) (pe_callR (ok__law_low T) (hr.mono (by decide)) rfl T.g__law_low T.k__law_low (pa_cons (pv 0) (pa_cons (pv 2) pa_nil))) (pv 2)) (pa_cons (pe_lstS (pa_cons (pv 2) pa_nil)) (pa_cons (pe_lstS pa_nil) pa_nil))) rfl)
    (pss_cons (ps_while PassesOwn.never (pt_cmpR (op_neD (hu64 hr)) (pv 4) (pe_lstS pa_nil) (nomark _)) (pss_cons (ps_set (i := 6) nd rfl (Or.inl rfl) (pe_bm0 PySem.F.plainAttrs_list PySem.F.slot_list_pop PySem.F.type_list_pop mt_pop (pv 4)))
    (pss_one (ps_for PassesOwn.never rfl (pi_list (pe_callR (ok__law_near T) (hr.mono (by decide)) rfl T.g__law_near T.k__law_near (pa_cons (pv 6) pa_nil))) (pg_name (i := 7) nd rfl (Or.inl rfl)) (pss_cons (ps_set (i := 8) nd rfl (Or.inl rfl) (pe_callR (ok__law_low T) (hr.mono (by decide)) rfl T.g__law_low T.k__law_low (pa_cons (pv 0) (pa_cons (pv 7) pa_nil))))
    (pss_one (ps_if (pt_cmpR op_eq (pe_callR (ok__law_seen T) (hr.mono (by decide)) rfl T.g__law_seen T.k__law_seen (pa_cons (pv 0) (pa_cons (pv 1) (pa_cons (pv 8) pa_nil)))) (pe_callR (ok__law_seen T) (hr.mono (by decide)) rfl T.g__law_seen T.k__law_seen (pa_cons (pv 0) (pa_cons (pv 1) (pa_cons (pv 6) pa_nil)))) (nomark _)) (pss_one (ps_if (pt_cmp (pc_dnotin (hu_of hr) (pv 8) (pv 3))) (pss_cons (ps_dputS (hu_of hr) (pv 3) (pv 8) (pv 7) rfl)
    (pss_one (ps_expr (pe_bm PySem.F.plainAttrs_list PySem.F.slot_list_append PySem.F.type_list_append mt_append (pv 4) (pa_cons (pv 7) pa_nil))))) (pss_one (ps_if (pt_cmpR (op_neD (hu64 hr)) (pe_dget (hu_of hr) (pv 3) (pv 8) (fun _ _ => rfl)) (pv 7) (nomark _)) (pss_one (ps_expr (pe_bm PySem.F.plainAttrs_list PySem.F.slot_list_append PySem.F.type_list_append mt_append (pv 5) (pa_cons (pe_tupS (pa_cons (pe_op op_sub (pe_ix ix_tup (pv 7) pe_int (fun _ _ => rfl)) (pe_ix ix_tup (pe_dget (hu_of hr) (pv 3) (pv 8) (fun _ _ => rfl)) pe_int (fun _ _ => rfl))) (pa_cons (pe_op op_sub (pe_ix ix_tup (pv 7) pe_int (fun _ _ => rfl)) (pe_ix ix_tup (pe_dget (hu_of hr) (pv 3) (pv 8) (fun _ _ => rfl)) pe_int (fun _ _ => rfl))) pa_nil))) pa_nil)))) pss_nil)))) pss_nil)))))))
    (pss_one (ps_ret (pe_tupS (pa_cons (pv 3) (pa_cons (pv 5) pa_nil))))))), ?_⟩
  try dsimp only [cxOf]
  obtain ⟨t, a, n, L, p0, rfl, ht, ok, ha, hp0, q⟩ := h
  have hlow : low n p0 = p0 := low_self ok.net hp0
  tm_at "sx"
  intro kn H1 nk s1 e1
  tm_at "sx"
  refine ⟨t, a, n, p0, rfl, s1 _ _ ht, ok.net.nw p0, s1 _ _ ha, fun kt H2 s2 ek => ?_⟩
  rw [hlow] at ek
  tm_at "sx"
  refine ⟨s2 _ _ e1, kt, kP p0, rfl, ek, fun H3 k3 e3 => ?_⟩
  have s12 : Same H H2 := Same.trans s1 s2
  have s03 : Same H H3 := chg_same nk s12 k3
  have ha3 := s03 _ _ ha
  tm_at "sx"
  refine ⟨by show 1 ≤ sizeLine; decide, fun wl H4 nw s4 e4 => ?_⟩
  tm_at "sx"
  refine ⟨Nat.zero_le _, fun sl H5 ns s5 e5 => ?_⟩
  tm_at "sx"
  refine ⟨_, _, _, rfl, ?_⟩
  have nwH : H wl = none := by
    cases z : H wl with
    | none => rfl
    | some u => rw [s03 _ _ z] at nw; cases nw
  have s04 : Same H H4 := Same.trans s03 s4
  have nsH : H sl = none := by
    cases z : H sl with
    | none => rfl
    | some u => rw [s04 _ _ z] at ns; cases ns
  have s05 : Same H H5 := Same.trans s04 s5
  have r0 : SR H5 kn wl sl ⟨[(p0, p0)], [p0], [], 0⟩ := by
    refine ⟨⟨_, s5 _ _ (s4 _ _ e3), .cons ⟨rfl, a, rfl, s05 _ _ ha⟩ .nil⟩, ⟨_, s5 _ _ e4, .cons ⟨a, rfl, s05 _ _ ha⟩ .nil⟩, ⟨_, e5, .nil⟩, fun z => ?_⟩
    subst z
    rw [e4] at ns; cases ns
  refine ⟨fun m σ H' => ∃ (st : DS) (Dn : List Pt) (o6 o7 o8 : Option V), σ = [some (.ref t), some (.str (txt L)), some (.ref a), some (.ref kn), some (.ref wl), some (.ref sl), o6, o7, o8] ∧ meas (cellL n).length st = m ∧ Same H H' ∧ SR H' kn wl sl st ∧ DI n L (colr n L p0) p0 Dn (Dn.flatMap lnb) st,
    ⟨_, ⟨[(p0, p0)], [p0], [], 0⟩, [], none, none, none, rfl, rfl, s05, r0, DI.start hlow⟩, fun m σ H7 hW => ?_⟩
  obtain ⟨st, Dn, o6, o7, o8, rfl, rfl, s07, r, di⟩ := hW
  tm_at "sx"
  refine ⟨Nat.zero_le _, fun em H8 ne s8 e8 => ?_⟩
  obtain ⟨us, hw1, hw2⟩ := (r.same s8).w
  refine w_nePs (sl_of hw1) hw2 (sl_of e8) ?_
  refine ⟨_, rfl, ?_⟩
  obtain ⟨M, W, S, b⟩ := st
  rcases List.eq_nil_or_concat W with rfl | ⟨W, p, rfl⟩
  · rw [decide_eq_true rfl]
    refine w_ff ?_
    tm_at "sx"
    obtain ⟨kvs, hk, hkv⟩ := (r.same s8).k
    refine ⟨by show 2 ≤ sizeLine; decide, fun u H9 nu s9 e9 => ?_⟩
    exact q u H9 M S b kn sl kvs (Same.trans s07 (Same.trans s8 s9)) e9 (s9 _ _ hk) (hkv.same s9) di.doneA
  · rw [List.concat_eq_append] at *
    rw [decide_eq_false (by simp)]
    refine w_tt ⟨fun σ H' => ∃ (st' : DS) (Dn : List Pt) (o6 o7 o8 : Option V), σ = [some (.ref t), some (.str (txt L)), some (.ref a), some (.ref kn), some (.ref wl), some (.ref sl), o6, o7, o8] ∧ meas (cellL n).length st' < meas (cellL n).length ⟨M, W ++ [p], S, b⟩ ∧ Same H H' ∧ SR H' kn wl sl st' ∧ DI n L (colr n L p0) p0 Dn (Dn.flatMap lnb) st',
      fun σ H' ⟨st', Dn, o6, o7, o8, e, hlt, z⟩ => ⟨_, hlt, st', Dn, o6, o7, o8, e, rfl, z⟩, ?_⟩
    tm_at "sx"
    have sr8 := r.same s8
    obtain ⟨us, c, g1, g2, g3⟩ := sr8.pop
    refine ⟨_, rfl, .inl ⟨rfl, _, sl_of g1⟩, pop_of g1 fun H9 k9 e9 => ?_⟩
    have sr9 := g3 H9 k9 e9
    have s09 : Same H H9 := chg_same nwH (Same.trans s07 s8) k9
    have hc9 := k9.up g2 (fun z => nomatch z)
    tm_at "sx"
    refine ⟨c, p, rfl, hc9, fun nl ns' H10 nn s10 e10 p10 => ?_⟩
    have nne : ∀ {x : Addr} {u : HO}, H9 x = some u → nl ≠ x := fun {x u} e z => by subst z; rw [nn] at e; cases e
    refine ⟨nl, rfl, ⟨_, sl_of e10⟩, ?_⟩
    obtain ⟨di1, hpm⟩ := di.pop
    have nkn : nl ≠ kn := by obtain ⟨k, h, _⟩ := sr9.k; exact nne h
    have nwl : nl ≠ wl := by obtain ⟨k, h, _⟩ := sr9.w; exact nne h
    have nsl : nl ≠ sl := by obtain ⟨k, h, _⟩ := sr9.s; exact nne h
    have hcp : colr n L p = colr n L p0 := by
      obtain ⟨e, he, rfl⟩ := List.mem_map.mp hpm
      exact di1.col e he
    refine for_list (xs := ns') (fun i σ H' => ∃ (o7 o8 : Option V), σ = [some (.ref t), some (.str (txt L)), some (.ref a), some (.ref kn), some (.ref wl), some (.ref sl), some (.ref c), o7, o8] ∧ Same H H' ∧ SR H' kn wl sl (foldA n L (colr n L p0) p i ⟨M, W, S, b⟩) ∧ H' nl = some (.lst ns') ∧ Ps H' ns' (lnb p) ∧ H' c = some (tup2 p))
      ⟨_, _, rfl, Same.trans s09 s10, sr9.same s10, e10, p10, s10 _ _ hc9⟩ (fun i σ H' _ hI => ?_) (fun i x σ H' hx hI => ?_) (fun σ H' hI => ?_)
    · obtain ⟨_, _, _, _, _, h, _⟩ := hI
      exact sl_of h
    · obtain ⟨o7, o8, rfl, sI, srI, hnl, pI, hcI⟩ := hI
      obtain ⟨bq, qq, rfl, hbq, hqi⟩ := pI.at hx
      obtain ⟨diI, hpI⟩ := di1.foldA hpm i
      obtain ⟨diN, _⟩ := di1.foldA hpm (i + 1)
      have hlen := diI.len ok.net
      have estep := foldA_succ n L (colr n L p0) p i ⟨M, W, S, b⟩ hqi
      rw [estep]
      generalize Cp.foldA n L (colr n L p0) p i ⟨M, W, S, b⟩ = stI at *
      obtain ⟨M1, W1, S1, b1⟩ := stI
      tm_at "sx"
      refine ⟨t, bq, n, qq, rfl, sI _ _ ht, ok.net.nw qq, hbq, fun tl H11 s11 e11 => ?_⟩
      tm_at "sx"
      refine ⟨t, tl, n, L, low n qq, rfl, s11 _ _ (sI _ _ ht), ok, e11, fun H12 s12 => ?_⟩
      tm_at "sx"
      have s1112 : Same H' H12 := Same.trans s11 s12
      refine ⟨t, c, n, L, p, rfl, s1112 _ _ (sI _ _ ht), ok, s1112 _ _ hcI, fun H13 s13 => ?_⟩
      tm_at "sx"
      refine ⟨_, rfl, ?_⟩
      rw [colr_low (low_low ok.net qq), hcp]
      have s113 : Same H' H13 := Same.trans s1112 s13
      have s12' : Same H11 H13 := Same.trans s12 s13
      have sr12 := srI.same s113
      have s012 := Same.trans sI s113
      have hnl12 := s113 _ _ hnl
      have p12 := pI.same s113
      have hc12 := s113 _ _ hcI
      clear s12 s13 s1112
      by_cases hcq : colr n L qq = colr n L p0
      · rw [show decide (one1 (colr n L qq) = one1 (colr n L p0)) = true from decide_eq_true (congrArg one1 hcq)]
        refine w_tt ?_
        have ed : dn n L (colr n L p0) ⟨M1, W1, S1, b1⟩ qq = match fnd M1 (low n qq) with
            | none => ⟨M1 ++ [(low n qq, qq)], W1 ++ [qq], S1, b1⟩
            | some r => if r ≠ qq then ⟨M1, W1, S1 ++ [psub qq r], b1⟩ else ⟨M1, W1, S1, b1⟩ := by
          unfold dn; rw [if_neg (fun z => z hcq)] <;> rfl
        rw [ed]
        obtain ⟨kvs, hkn, hkv⟩ := id sr12.k
        have htl := s12' _ _ e11
        have hbq2 := s113 _ _ hbq
        tm_at "sx"
        refine ⟨_, rfl, _, rfl, kn, _, rfl, DGet.t (k := kP (low n qq)) hkn htl, ?_⟩
        cases ef : fnd M1 (low n qq) with
        | none =>
          rw [hkv.none ef]
          refine ⟨_, rfl, w_tt ?_⟩
          tm_at "sx"
          obtain ⟨kvs2, hk2, hl2, hput⟩ := sr12.put ef hbq2
          refine ⟨_, rfl, _, rfl, _, rfl, kn, tl, kvs2, kP (low n qq), rfl, rfl, hk2, htl, by rw [hl2]; have := sizeLine_eq; have := ok.net.nat; have := ok.net.sz; rw [cellL_len] at hlen; dsimp only at hlen; omega, fun H13 k13 e13 => ?_⟩
          have sr13 := hput H13 k13 e13
          have nkH : H kn = none := nk
          have s013 : Same H H13 := chg_same nkH s012 k13
          obtain ⟨us3, hw3, hl3, hpush⟩ := sr13.push (k13.up hbq2 (fun z => nomatch z))
          tm_at "sx"
          refine ⟨_, rfl, .inl ⟨rfl, _, sl_of hw3⟩, ?_⟩
          tm_at "sx"
          have hsm := ok.net.sz
          have hnat := ok.net.nat
          have hpl : (Dn ++ [p] ++ W1).length = M1.length := by rw [diI.perm.length_eq, List.length_map]
          refine app_of hw3 (by rw [hl3]; have := sizeLine_eq; rw [cellL_len] at hlen; dsimp only at hlen; rw [List.length_append] at hpl; omega) fun H14 k14 e14 => ?_
          have sr14 := hpush H14 k14 e14
          have knl := k14.2 _ _ nwl (k13.2 _ _ nkn hnl12)
          exact ⟨_, _, rfl, chg_same nwH s013 k14, sr14, knl, (p12.chg k13 (fun _ z => nomatch z)).chg k14 (fun _ z => nomatch z), k14.up (k13.up hc12 (fun z => nomatch z)) (fun z => nomatch z)⟩
        | some r =>
          obtain ⟨br, hbr, hbr2⟩ := hkv.some ef
          rw [hbr]
          refine ⟨_, rfl, w_ff ?_⟩
          tm_at "sx"
          refine ⟨_, rfl, _, rfl, kn, .ref br, rfl, by rw [← hbr]; exact DGet.t (k := kP (low n qq)) hkn htl, ?_⟩
          tm_at "sx"
          refine w_nePl (x := r.1) (y := r.2) (u := qq.1) (v := qq.2) (sq_of hbr2) (sq_of hbq2) ?_
          refine ⟨_, rfl, ?_⟩
          by_cases hrq : r = qq
          · rw [show decide ((r.1, r.2) = (qq.1, qq.2)) = true from decide_eq_true (by rw [hrq])]
            refine w_ff ?_
            tm_at "sx"
            dsimp only
            rw [if_neg (fun z => z hrq)]
            exact ⟨_, _, rfl, s012, sr12, hnl12, p12, hc12⟩
          · rw [show decide ((r.1, r.2) = (qq.1, qq.2)) = false from decide_eq_false hrq]
            refine w_tt ?_
            dsimp only
            rw [if_pos hrq]
            tm_at "sx"
            obtain ⟨ss0, hss0, _⟩ := id sr12.s
            refine ⟨_, rfl, .inl ⟨rfl, _, sl_of hss0⟩, ?_⟩
            tm_at "sx"
            refine ⟨_, rfl, _, rfl, kn, .ref br, rfl, by rw [← hbr]; exact DGet.t (k := kP (low n qq)) hkn htl, ?_⟩
            tm_at "sx"
            refine ⟨_, rfl, _, rfl, kn, .ref br, rfl, by rw [← hbr]; exact DGet.t (k := kP (low n qq)) hkn htl, ?_⟩
            tm_at "sx"
            refine ⟨by show 2 ≤ sizeLine; decide, fun sp H13 n13 s13 e13 => ?_⟩
            tm_at "sx"
            obtain ⟨us3, hs3, hl3, hsh⟩ := (sr12.same s13).shift (q := psub qq r) e13
            have hnl13 := s13 _ _ hnl12
            refine app_of hs3 (by
              rw [hl3]
              have h1 := diI.sl
              rw [List.length_append, flat_lnb] at h1
              have h2 : ((lnb p).take i).length ≤ 4 := by rw [List.length_take, lnb_len]; omega
              have h3 : (Dn ++ [p] ++ W1).length = M1.length := by rw [diI.perm.length_eq, List.length_map]
              have hsm := ok.net.sz
              have hnat := ok.net.nat
              have := sizeLine_eq
              rw [cellL_len] at hlen
              rw [List.length_append, List.length_append] at h3
              dsimp only at hlen h1
              omega) fun H14 k14 e14 => ?_
            exact ⟨_, _, rfl, chg_same nsH (Same.trans s012 s13) k14, hsh H14 k14 e14, k14.2 _ _ nsl hnl13, (p12.same s13).chg k14 (fun _ z => nomatch z), k14.up (s13 _ _ hc12) (fun z => nomatch z)⟩
      · rw [show decide (one1 (colr n L qq) = one1 (colr n L p0)) = false from decide_eq_false (fun z => hcq (one1_inj.mp z))]
        refine w_ff ?_
        have ed : dn n L (colr n L p0) ⟨M1, W1, S1, b1⟩ qq = ⟨M1, W1, S1, b1 + 1⟩ := by
          unfold dn; rw [if_pos hcq]
        rw [ed]
        exact ⟨_, _, rfl, s012, ⟨sr12.k, sr12.w, sr12.s, sr12.ne⟩, hnl12, p12, hc12⟩
    · obtain ⟨o7, o8, rfl, sI, srI, hnl, pI, _⟩ := hI
      have hl4 : ns'.length = 4 := pI.len
      rw [hl4] at srI
      refine ⟨_, Dn ++ [p], _, o7, o8, rfl, ?_, sI, srI, di.roundA⟩
      refine Nat.lt_of_le_of_lt (di1.foldA_meas ok.net hpm 4) ?_
      unfold meas
      simp
def sp__law_edge (K : PySem.W.Frag) : Sp := fun vs H Q _ => ∃ (t l : Addr) (n : T3) (L : List Nat) (us : List V), vs = [.ref t, .str (txt L), .ref l] ∧ H t = some (tup3 n) ∧ TOk n L ∧ H l = some (.lst us) ∧ Ps H us (cellL n) ∧ ∀ H', Same H H' → Q (.int (((cellL n).map (dif (colr n L))).sum : Nat)) H'
theorem ok__law_edge (T : Tx K mg) : FnR P w K mg base CX0 3 (He.ga K "_law_edge") (sp__law_edge K) := by
  refine fnr_of T.f__law_edge sc__law_edge (fun _ _ _ _ _ _ us hl => match us, hl with | [_, _, _], _ => rfl) (fun vs H Q E h => by obtain ⟨_, _, _, _, _, rfl, _⟩ := h; rfl) (fun cdv A outer s H vs Q E hr h => ?_)
  have nd := sc__law_edge.nd
  refine ⟨_, (pss_cons (ps_set (i := 3) nd rfl (Or.inl rfl) pe_int)
    (pss_cons (ps_for PassesOwn.never rfl (pi_list (pv 2)) (pg_name (i := 4) nd rfl (Or.inr rfl)) (pss_one (ps_set (i := 3) nd rfl (Or.inl rfl) (pe_op op_add (pv 3) (pe_callB call_len rfl T.b_len bo_len (pa_cons (pe_lcL (own := [("_law_one", 5)]) (g := (gName 5)) rfl nd (pe_callR (ok__law_near T) (hr.mono (by decide)) rfl T.g__law_near T.k__law_near (pa_cons (pv 4) pa_nil)) (blkOk_by (N := N_law_edge) (sc := defScope s_law_edge) (by decide +kernel)) (fun _ _ _ _ _ => (pg_name (i := 5) nd rfl (Or.inl rfl))) (fun _ _ _ _ _ => (pts_one (pt_cmpR op_ne (pe_callR (ok__law_seen T) (hr.mono (by decide)) rfl T.g__law_seen T.k__law_seen (pa_cons (pv 0) (pa_cons (pv 1) (pa_cons (pv 5) pa_nil)))) (pe_callR (ok__law_seen T) (hr.mono (by decide)) rfl T.g__law_seen T.k__law_seen (pa_cons (pv 0) (pa_cons (pv 1) (pa_cons (pv 4) pa_nil)))) (nomark _)))) (fun _ _ _ _ _ => (pv 5))) pa_nil))))))
    (pss_one (ps_ret (pv 3))))), ?_⟩
  try dsimp only [cxOf]
  obtain ⟨t, l, n, L, us, rfl, ht, ok, hl, hps, q⟩ := h
  have hsl := sizeLine_eq
  have hul : us.length = (cellL n).length := hps.len
  tm_at "sx"
  refine ⟨l, rfl, ⟨us, sl_of hl⟩, ?_⟩
  refine for_list (xs := us) (fun i σ H' => (∃ o4 o5 : Option V, σ = [some (.ref t), some (.str (txt L)), some (.ref l), some (.int ((((cellL n).take i).map (dif (colr n L))).sum : Nat)), o4, o5]) ∧ Same H H')
    ⟨⟨none, none, rfl⟩, Same.refl _⟩ (fun i σ H' _ hI => Same.upL hI.2 (sl_of hl)) (fun i x σ H' hx hI => ?_) (fun σ H' hI => ?_)
  · obtain ⟨⟨o4, o5, rfl⟩, s1⟩ := hI
    obtain ⟨bx, p, rfl, hbx, hpi⟩ := (hps.same s1).at hx
    tm_at "sx"
    refine ⟨bx, p, rfl, hbx, fun nl ns H2 nn s2 e2 p2 => ?_⟩
    have s02 := Same.trans s1 s2
    refine ⟨nl, ns, rfl, sl_of e2, by rw [p2.len]; show 4 < sizeLine; decide, fun i acc H' => acc.length = (((lnb p).take i).filter fun q => decide (colr n L q ≠ colr n L p)).length, fun _ _ => rfl, fun D j v acc H3 hj hv hD s3 e pp => ?_, fun D acc H3 hD s3 e pp => ?_⟩
    · obtain ⟨bq, qq, rfl, hbq, hqi⟩ := (p2.same s3).at hv
      tm_at "sx"
      refine ⟨rfl, ?_⟩
      tm_at "sx"
      have s03 := Same.trans s02 s3
      refine ⟨t, bq, n, L, qq, rfl, s03 _ _ ht, ok, hbq, fun H4 s4 => ?_⟩
      tm_at "sx"
      refine ⟨t, bx, n, L, p, rfl, s4 _ _ (s03 _ _ ht), ok, s4 _ _ (s3 _ _ (s2 _ _ hbx)), fun H5 s5 => ?_⟩
      tm_at "sx"
      refine ⟨_, rfl, ?_⟩
      have s45 : Same H3 H5 := Same.trans s4 s5
      have hstep : ((lnb p).take (j + 1)).filter (fun q => decide (colr n L q ≠ colr n L p)) = ((lnb p).take j).filter (fun q => decide (colr n L q ≠ colr n L p)) ++ (if colr n L qq = colr n L p then [] else [qq]) := by
        rw [List.take_add_one, hqi, List.filter_append]
        congr 1
        by_cases hk : colr n L qq = colr n L p <;> simp [hk]
      by_cases he : colr n L qq = colr n L p
      · rw [decide_eq_true (one1_inj.mpr he)]
        refine w_ff ⟨s45 _ _ e, Same.trans s3 s45, ?_⟩
        rw [hstep, if_pos he, List.append_nil]; exact pp
      · rw [decide_eq_false (fun z => he (one1_inj.mp z))]
        refine w_tt ?_
        tm_at "sx"
        refine ⟨s45 _ _ e, Same.trans s3 s45, fun H6 c s6 => ?_⟩
        rw [hstep, if_neg he, List.length_append, List.length_append, pp]; rfl
    · tm_at "sx"
      refine ⟨_, _, rfl, .inl ⟨acc, sl_of e, rfl⟩, ?_⟩
      tm_at "sx"
      refine ⟨⟨some (.ref bx), o5, ?_⟩, Same.trans s02 s3⟩
      have pp2 : acc.length = (((lnb p).take ns.length).filter fun q => decide (colr n L q ≠ colr n L p)).length := pp
      have hp2 : acc.length = dif (colr n L) p := by
        rw [pp2, show ns.length = 4 from p2.len, List.take_of_length_le (Nat.le_of_eq (lnb_len p)), lnb_dif]
      rw [List.take_add_one, hpi, List.map_append, List.sum_append]
      show _ = [_, _, _, some (V.int (((((cellL n).take i).map (dif (colr n L))).sum + (dif (colr n L) p + 0) : Nat) : Int)), _, _]
      rw [Nat.add_zero, Int.natCast_add, hp2]; rfl
  · obtain ⟨⟨o4, o5, rfl⟩, s1⟩ := hI
    rw [hul, List.take_length]
    tm_at "sx"
    exact q _ s1
end
end Cp
set_option Elab.async false
set_option linter.all false
set_option maxRecDepth 100000
set_option maxHeartbeats 2000000
/-! F29: the tape and what is drawn from it. -/
namespace Cp
open PySem PySem.Spec PyProof.Rows L2
local macro_rules | `(tactic| tm_at "fact") => `(tactic| first
  | assumption
  | (apply Same.up; · assumption
     tm_at "fact")
  | (apply Same.upS; · assumption
     tm_at "fact")
  | (apply Same.upL; · assumption
     tm_at "fact")
  | (apply sq_of; tm_at "fact")
  | (apply sl_of; tm_at "fact")
  | (apply Chg.up; · assumption
     · tm_at "fact"
     · exact fun z => nomatch z)
  | (apply Chg.upS; · assumption
     · tm_at "fact"
     · exact fun _ z => nomatch z
     · exact fun _ _ z => nomatch z))
local macro_rules | `(tactic| tm_at "same") => `(tactic| first
  | assumption
  | exact Same.refl _
  | (refine Same.trans ?_ ?_; rotate_left; · assumption
     tm_at "same"))
local macro_rules | `(tactic| tm_at "sx1") => `(tactic| with_reducible first
  | refine w_var rfl ?_
  | refine w_c ?_
  | refine w_op ?_
  | refine w_seq ?_
  | refine w_asg ?_
  | refine w_gname ?_
  | refine w_ret ?_
  | refine w_nil ?_
  | refine w_cons ?_
  | refine w_tup ?_
  | refine w_lst ?_
  | refine w_cb ?_
  | refine w_callR ?_
  | refine w_i0 ?_
  | refine w_gcons ?_
  | refine w_gnil ?_
  | refine w_test ?_
  | refine w_not ?_
  | refine w_ifs ?_
  | refine w_if ?_
  | refine w_expr ?_
  | refine w_eqI ?_
  | refine w_neI ?_
  | refine w_eqS ?_
  | refine w_neS ?_
  | refine w_or ?_
  | refine w_and ?_
  | refine w_par3 ?_
  | refine w_andV ?_
  | refine w_notV ?_
  | refine w_lcS ?_
  | refine w_forE ?_
  | refine w_m1 ?_
  | refine w_forL ?_
  | refine w_forR1 ?_
  | refine w_isN ?_
  | refine w_notN ?_
  | refine w_fld ?_
  | refine w_methR ?_
  | refine w_propR ?_
  | refine w_propA ?_
  | refine w_methA ?_
  | refine w_subA ?_
  | refine w_makeS ?_
  | refine w_fldS ?_
  | refine w_chain ?_
  | refine w_orV ?_
  | refine w_next ?_
  | refine w_tB ?_
  | refine w_lcL ?_
  | refine w_lcT ?_
  | refine w_lcR1 ?_
  | refine w_lcR1W ?_
  | refine w_turnW ?_
  | refine w_sl ?_
  | refine w_part ?_
  | refine w_nopart ?_
  | refine w_lcR2 ?_
  | refine w_turn ?_
  | refine w_yes ?_
  | refine w_par ?_
  | refine w_uI ?_
  | refine w_un ?_
  | refine w_one ?_)
local macro_rules | `(tactic| tm_at "at") => `(tactic| first | exact rfl | exact atI_nat rfl)
local macro_rules | `(tactic| tm_at "ix") => `(tactic| first
  | (with_reducible apply w_ixT; · tm_at "fact"
     · tm_at "at")
  | (with_reducible apply w_ixL; · tm_at "fact"
     · tm_at "at")
  | (with_reducible apply w_gtup; · tm_at "fact"
     · exact rfl))
local macro_rules | `(tactic| tm_at "sx") => `(tactic| repeat (first | tm_at "sx1" | tm_at "ix"))
/-- the tape: a list that changes -/
def TapeV (H : Hp) (T l : Addr) : Prop := ∃ (pos : Nat) (left seed : Int) (ys : List V), H T = some (.lst [.ref l, .int pos, .int left, .int seed]) ∧ H l = some (.lst ys) ∧ l ≠ T ∧ (∀ v ∈ ys, ∃ i, v = V.int i) ∧ 0 ≤ seed ∧ seed < 2147483648
theorem TapeV.same {H H' : Hp} {T l : Addr} (s : Same H H') (h : TapeV H T l) : TapeV H' T l := let ⟨pos, left, seed, ys, h1, h2, h3⟩ := h; ⟨pos, left, seed, ys, s _ _ h1, s _ _ h2, h3⟩
/-- all but T is kept -/
def Kp (T : Addr) (H H' : Hp) : Prop := ∀ b u, b ≠ T → H b = some u → H' b = some u
theorem Kp.refl (T : Addr) (H : Hp) : Kp T H H := fun _ _ _ h => h
theorem Kp.trans {T : Addr} {H1 H2 H3 : Hp} (h : Kp T H1 H2) (g : Kp T H2 H3) : Kp T H1 H3 := fun b u z e => g b u z (h b u z e)
theorem Kp.of {T : Addr} {H H' : Hp} (s : Same H H') : Kp T H H' := fun b u _ e => s b u e
theorem Kp.up {T l b : Addr} {H H' : Hp} {u : HO} (k : Kp T H H') (t : TapeV H T l) (h : H b = some u) (d : ∀ xs, u ≠ .lst xs) : H' b = some u := by
  obtain ⟨pos, left, seed, ys, h1, _⟩ := t
  exact k b u (fun z => by subst z; rw [h1] at h; exact d _ (Option.some.inj h).symm) h
theorem TapeV.ne {T l b : Addr} {H : Hp} (t : TapeV H T l) (h : H b = none) : b ≠ T ∧ b ≠ l := by
  obtain ⟨pos, left, seed, ys, h1, h2, _⟩ := t
  exact ⟨fun z => (by subst z; rw [h1] at h; cases h), fun z => (by subst z; rw [h2] at h; cases h)⟩
theorem Kp.chg {T p : Addr} {o : HO} {H0 H H' : Hp} (k : Kp T H0 H) (c : Chg p o H H') (n : H0 p = none) : Kp T H0 H' := fun b u z e => c.2 b u (fun y => by subst y; rw [n] at e; cases e) (k b u z e)
theorem TapeV.chg {T l p : Addr} {o : HO} {H H' : Hp} (t : TapeV H T l) (c : Chg p o H H') (h : p ≠ T ∧ p ≠ l) : TapeV H' T l := by
  obtain ⟨pos, left, seed, ys, h1, h3, h4⟩ := t
  exact ⟨pos, left, seed, ys, c.2 _ _ (Ne.symm h.1) h1, c.2 _ _ (Ne.symm h.2) h3, h4⟩
section
variable {P : Program} {w : World} {K : PySem.W.Frag} {mg : Str → Option Value} {base : Heap}
def sp__law_tape (K : PySem.W.Frag) : Sp := fun vs H Q _ => ∃ (s : Addr) (ys : List V), vs = [.ref s] ∧ SqL K H s ys ∧ (∀ v ∈ ys, ∃ i, v = V.int i) ∧ ∀ T l H', H T = none → Same H H' → TapeV H' T l → Q (.ref T) H'
theorem ok__law_tape (T : Tx K mg) : FnR P w K mg base CX0 1 (He.ga K "_law_tape") (sp__law_tape K) := by
  refine fnr_of T.f__law_tape sc__law_tape (fun _ _ _ _ _ _ us hl => match us, hl with | [_], _ => rfl) (fun vs H Q E h => by obtain ⟨_, _, rfl, _⟩ := h; rfl) (fun cdv A outer s H vs Q E hr h => ?_)
  have nd := sc__law_tape.nd
  refine ⟨_, (pss_one (ps_ret (pe_lstS (pa_cons (pe_callTy call_list_of rfl T.b_list bo_list (pa_cons (pe_slice sl_list (pv 0) po_none (po_some pe_int)) pa_nil)) (pa_cons pe_int (pa_cons pe_int (pa_cons pe_int pa_nil))))))), ?_⟩
  try dsimp only [cxOf]
  obtain ⟨s, ys, rfl, hs, hy, q⟩ := h
  tm_at "sx"
  refine ⟨63, rfl, ?_⟩
  have hcut : ∀ v ∈ cutV ys none (some 63), ∃ i, v = V.int i := fun v hv => hy v (List.mem_of_mem_drop (List.mem_of_mem_take hv))
  refine ⟨s, ys, rfl, hs, fun p1 n1 => ?_⟩
  tm_at "sx"
  have s1 := same_upd (o := .lst (cutV ys none (some 63))) n1
  have e1 : upd H p1 (.lst (cutV ys none (some 63))) p1 = _ := upd_same
  generalize upd H p1 (.lst (cutV ys none (some 63))) = H1 at *
  refine ⟨p1, _, rfl, .inl (sl_of e1), fun p2 n2 => ?_⟩
  have s2 := same_upd (o := .lst (cutV ys none (some 63))) n2
  have e2 : upd H1 p2 (.lst (cutV ys none (some 63))) p2 = _ := upd_same
  generalize upd H1 p2 (.lst (cutV ys none (some 63))) = H2 at *
  tm_at "sx"
  refine ⟨by show 4 ≤ sizeLine; decide, fun T H3 n3 s3 e3 => ?_⟩
  have s02 := Same.trans s1 s2
  refine q T p2 H3 ?_ (Same.trans s02 s3) ⟨0, 0, 17, _, e3, s3 _ _ e2, (fun z => by subst z; rw [e2] at n3; cases n3), hcut, by decide, by decide⟩
  cases z : H T with
  | none => rfl
  | some u => rw [s02 _ _ z] at n3; cases n3
/-- a store to the tape -/
theorem tape_put {H : Hp} {T l : Addr} {pos : Nat} {left seed : Int} {xs ys : List V} (hT : H T = some (.lst xs)) (hl : H l = some (.lst ys)) (hne : l ≠ T) (hys : ∀ v ∈ ys, ∃ i, v = V.int i) (h0 : 0 ≤ seed) (h1 : seed < 2147483648) :
    Kp T H (upd H T (.lst [.ref l, .int pos, .int left, .int seed])) ∧ TapeV (upd H T (.lst [.ref l, .int pos, .int left, .int seed])) T l :=
  ⟨fun b u z e => by rw [upd_ne z]; exact e, pos, left, seed, ys, upd_same, by rw [upd_ne hne]; exact hl, hne, hys, h0, h1⟩
def sp__law_draw (K : PySem.W.Frag) : Sp := fun vs H Q _ => ∃ (T l : Addr) (many : Int), vs = [.ref T, .int many] ∧ TapeV H T l ∧ 1 ≤ many ∧ many < 2 ^ 30 ∧ ∀ d H', 0 ≤ d → d < many → Kp T H H' → TapeV H' T l → Q (.int d) H'
theorem ok__law_draw (T : Tx K mg) : FnR P w K mg base CX0 1 (He.ga K "_law_draw") (sp__law_draw K) := by
  refine fnr_of T.f__law_draw sc__law_draw (fun _ _ _ _ _ _ us hl => match us, hl with | [_, _], _ => rfl) (fun vs H Q E h => by obtain ⟨_, _, _, rfl, _⟩ := h; rfl) (fun cdv A outer s H vs Q E hr h => ?_)
  have nd := sc__law_draw.nd
  refine ⟨_, (pss_cons (ps_if (pt_cmpR op_gt (pe_ix ix_list (pv 0) pe_int (fun _ _ => rfl)) pe_int (nomark _)) (pss_cons (ps_set (i := 2) nd rfl (Or.inl rfl) (pe_op op_mod (pe_ix ix_list (pv 0) pe_int (fun _ _ => rfl)) (pv 1)))
    (pss_cons (ps_asg (pe_op op_fdiv (pe_ix ix_list (pv 0) pe_int (fun _ _ => rfl)) (pv 1)) (pg_sub (pv 0) pe_int set_list))
    (pss_one (ps_ret (pv 2))))) pss_nil)
    (pss_cons (ps_set (i := 3) nd rfl (Or.inl rfl) pe_int)
    (pss_cons (ps_if (pt_cmpR op_lt (pe_ix ix_list (pv 0) pe_int (fun _ _ => rfl)) (pe_callB call_len rfl T.b_len bo_len (pa_cons (pe_ix ix_list (pv 0) pe_int (fun _ _ => rfl)) pa_nil)) (nomark _)) (pss_one (ps_set (i := 3) nd rfl (Or.inl rfl) (pe_ix ix_list (pe_ix ix_list (pv 0) pe_int (fun _ _ => rfl)) (pe_ix ix_list (pv 0) pe_int (fun _ _ => rfl)) (fun _ _ => rfl)))) pss_nil)
    (pss_cons (ps_asg (pe_op op_add (pe_ix ix_list (pv 0) pe_int (fun _ _ => rfl)) pe_int) (pg_sub (pv 0) pe_int set_list))
    (pss_cons (ps_if (pt_cmpR op_ge (pv 3) (pe_op op_pow pe_int pe_int) (nomark _)) (pss_cons (ps_asg (pe_op op_fdiv (pv 3) (pv 1)) (pg_sub (pv 0) pe_int set_list))
    (pss_one (ps_ret (pe_op op_mod (pv 3) (pv 1))))) pss_nil)
    (pss_cons (ps_set (i := 4) nd rfl (Or.inl rfl) (pe_op op_add (pe_op op_add (pe_op op_mod (pv 3) pe_int) (pe_op op_mul pe_int (pe_ix ix_list (pv 0) pe_int (fun _ _ => rfl)))) pe_int))
    (pss_cons (ps_asg (pe_op op_mod (pe_op op_add (pe_op op_mul (pe_ix ix_list (pv 0) pe_int (fun _ _ => rfl)) pe_int) (pv 4)) pe_int) (pg_sub (pv 0) pe_int set_list))
    (pss_one (ps_ret (pe_op op_mod (pe_op op_mod (pe_op op_pow (pe_ix ix_list (pv 0) pe_int (fun _ _ => rfl)) pe_int) pe_int) (pv 1))))))))))), ?_⟩
  try dsimp only [cxOf]
  obtain ⟨T0, l, many, rfl, ⟨pos, left, seed, ys, hT, hl, hne, hys, hs0, hs1⟩, m1, m2, q⟩ := h
  tm_at "sx"
  refine ⟨_, rfl, ?_⟩
  by_cases hleft : 0 < left
  · rw [decide_eq_true hleft]
    refine w_tt ?_
    tm_at "sx"
    refine w_iC (show (0 : Int) < many by omega) ?_
    tm_at "sx"
    refine w_iC ⟨by omega, by omega⟩ ?_
    refine ⟨_, rfl, ?_⟩
    refine ⟨T0, _, 2, 2, rfl, rfl, hT, (by show ixN 4 2 = some 2; decide), ?_⟩
    obtain ⟨k1, t1⟩ := tape_put (pos := pos) (left := left / many) hT hl hne hys hs0 hs1
    tm_at "sx"
    exact q _ _ (Int.emod_nonneg _ (by omega)) (Int.emod_lt_of_pos _ (by omega)) k1 t1
  · rw [decide_eq_false hleft]
    refine w_ff ?_
    tm_at "sx"
    refine ⟨.ref l, ys.length, rfl, .inl ⟨ys, sl_of hl, rfl⟩, ?_⟩
    tm_at "sx"
    refine ⟨_, rfl, ?_⟩
    have main : ∀ (cell : Int) (o4 : Option V), tSeq (tAsg (tOp (rI0 fun i j => V.int (i + j)) (tOp (rIxL K) (tVar 0) (tC (V.int 1))) (tC (V.int 1))) (gSub (tVar 0) (tC (V.int 1)) rSetL)) (tSeq
                        (tIfS
                          (tTest
                            (tOp (rI0 fun i j => V.bl (decide (j ≤ i))) (tVar 3)
                              (tOp (rI CPow fun i j => V.int (i ^ j.toNat)) (tC (V.int 10)) (tC (V.int 18)))))
                          (tSeq
                            (tAsg (tOp (rI CDiv fun i j => V.int (i / j)) (tVar 3) (tVar 1))
                              (gSub (tVar 0) (tC (V.int 2)) rSetL))
                            (tRet (tOp (rI (fun x j => 0 < j) fun i j => V.int (i % j)) (tVar 3) (tVar 1))))
                          tNext)
                        (tSeq
                          (tAsg
                            (tOp (rI0 fun i j => V.int (i + j))
                              (tOp (rI0 fun i j => V.int (i + j))
                                (tOp (rI (fun x j => 0 < j) fun i j => V.int (i % j)) (tVar 3) (tC (V.int 2147483647)))
                                (tOp (rI CMul fun i j => V.int (i * j)) (tC (V.int 7919))
                                  (tOp (rIxL K) (tVar 0) (tC (V.int 1)))))
                              (tC (V.int 11))) (gName 4))
                          (tSeq
                            (tAsg
                              (tOp (rI (fun x j => 0 < j) fun i j => V.int (i % j))
                                (tOp (rI0 fun i j => V.int (i + j))
                                  (tOp (rI CMul fun i j => V.int (i * j)) (tOp (rIxL K) (tVar 0) (tC (V.int 3)))
                                    (tC (V.int 48271)))
                                  (tVar 4))
                                (tC (V.int 2147483647)))
                              (gSub (tVar 0) (tC (V.int 3)) rSetL))
                            (tRet
                              (tOp (rI (fun x j => 0 < j) fun i j => V.int (i % j))
                                (tOp (rI (fun x j => 0 < j) fun i j => V.int (i % j))
                                  (tOp (rI CPow fun i j => V.int (i ^ j.toNat)) (tOp (rIxL K) (tVar 0) (tC (V.int 3)))
                                    (tC (V.int 5)))
                                  (tC (V.int 2147483647)))
                                (tVar 1)))))) { nx := fun x H' => Q V.non H', rt := Q } [some (.ref T0), some (.int many), none, some (.int cell), o4] H := fun cell o4 => by
      tm_at "sx"
      refine ⟨_, rfl, ?_⟩
      refine ⟨T0, _, 1, 1, rfl, rfl, hT, (by show ixN 4 1 = some 1; decide), ?_⟩
      obtain ⟨k1, _⟩ := tape_put (pos := pos + 1) (left := left) hT hl hne hys hs0 hs1
      have hT1 : upd H T0 (.lst [.ref l, .int ((pos + 1 : Nat) : Int), .int left, .int seed]) T0 = _ := upd_same
      have hl1 := k1 _ _ hne hl
      show tSeq _ _ _ _ (upd H T0 (.lst [.ref l, .int ((pos + 1 : Nat) : Int), .int left, .int seed]))
      generalize upd H T0 (.lst [.ref l, .int ((pos + 1 : Nat) : Int), .int left, .int seed]) = H1 at *
      tm_at "sx"
      refine w_iC ⟨by decide, by decide, by decide⟩ ?_
      tm_at "sx"
      refine ⟨_, rfl, ?_⟩
      cases decide ((10 : Int) ^ (18 : Int).toNat ≤ cell) with
      | true =>
        refine w_tt ?_
        tm_at "sx"
        refine w_iC ⟨by omega, by omega⟩ ?_
        tm_at "sx"
        refine ⟨_, rfl, ?_⟩
        refine ⟨T0, _, 2, 2, rfl, rfl, hT1, (by show ixN 4 2 = some 2; decide), ?_⟩
        obtain ⟨k2, t2⟩ := tape_put (pos := pos + 1) (left := cell / many) hT1 hl1 hne hys hs0 hs1
        tm_at "sx"
        refine w_iC (show (0 : Int) < many by omega) ?_
        exact q _ _ (Int.emod_nonneg _ (by omega)) (Int.emod_lt_of_pos _ (by omega)) (k1.trans k2) t2
      | false =>
        refine w_ff ?_
        tm_at "sx"
        refine w_iC (show (0 : Int) < 2147483647 by decide) ?_
        tm_at "sx"
        refine w_iC (.inl ⟨by decide, by decide⟩) ?_
        tm_at "sx"
        refine w_iC (.inr ⟨by decide, by decide⟩) ?_
        tm_at "sx"
        refine w_iC (show (0 : Int) < 2147483647 by decide) ?_
        tm_at "sx"
        refine ⟨_, rfl, ?_⟩
        refine ⟨T0, _, 3, 3, rfl, rfl, hT1, (by show ixN 4 3 = some 3; decide), ?_⟩
        generalize (seed * 48271 + (cell % 2147483647 + 7919 * ((pos + 1 : Nat) : Int) + 11)) = z
        have z0 := Int.emod_nonneg z (b := 2147483647) (by decide)
        have z1 := Int.emod_lt_of_pos z (b := 2147483647) (by decide)
        obtain ⟨k2, t2⟩ := tape_put (pos := pos + 1) (left := left) hT1 hl1 hne hys z0 (by omega)
        have hT2 : upd H1 T0 (.lst [.ref l, .int ((pos + 1 : Nat) : Int), .int left, .int (z % 2147483647)]) T0 = some (.lst [.ref l, .int ((pos + 1 : Nat) : Int), .int left, .int (z % 2147483647)]) := upd_same
        generalize hH2 : upd H1 T0 (HO.lst (List.set _ 3 _)) = H2
        have k2' : Kp T0 H1 H2 := by rw [← hH2]; exact k2
        have t2' : TapeV H2 T0 l := by rw [← hH2]; exact t2
        have hT2' : H2 T0 = some (.lst [.ref l, .int ((pos + 1 : Nat) : Int), .int left, .int (z % 2147483647)]) := by rw [← hH2]; exact hT2
        clear hT2 t2 k2
        tm_at "sx"
        refine w_iC ⟨by decide, by decide, by omega⟩ ?_
        tm_at "sx"
        refine w_iC (show (0 : Int) < 2147483647 by decide) ?_
        tm_at "sx"
        refine w_iC (show (0 : Int) < many by omega) ?_
        exact q _ _ (Int.emod_nonneg _ (by omega)) (Int.emod_lt_of_pos _ (by omega)) (k1.trans k2') t2'
    by_cases hp : (pos : Int) < (ys.length : Int)
    · rw [decide_eq_true hp]
      refine w_tt ?_
      have hpl : pos < ys.length := by omega
      obtain ⟨c, hc⟩ := hys _ (List.getElem_mem hpl)
      tm_at "sx"
      refine w_ixL (sl_of hl) (atI_nat (j := pos) (List.getElem?_eq_getElem hpl)) ?_
      rw [hc]
      exact main c _
    · rw [decide_eq_false hp]
      refine w_ff ?_
      exact main 0 _
end
end Cp
set_option Elab.async false
set_option linter.all false
set_option maxRecDepth 100000
set_option maxHeartbeats 2000000
/-! F30: nets and letters that are drawn. -/
namespace Cp
open PySem PySem.Spec PyProof.Rows L2
local macro_rules | `(tactic| tm_at "fact") => `(tactic| first
  | assumption
  | (apply Same.up; · assumption
     tm_at "fact")
  | (apply Same.upS; · assumption
     tm_at "fact")
  | (apply Same.upL; · assumption
     tm_at "fact")
  | (apply sq_of; tm_at "fact")
  | (apply sl_of; tm_at "fact")
  | (apply Chg.up; · assumption
     · tm_at "fact"
     · exact fun z => nomatch z)
  | (apply Chg.upS; · assumption
     · tm_at "fact"
     · exact fun _ z => nomatch z
     · exact fun _ _ z => nomatch z))
local macro_rules | `(tactic| tm_at "same") => `(tactic| first
  | assumption
  | exact Same.refl _
  | (refine Same.trans ?_ ?_; rotate_left; · assumption
     tm_at "same"))
local macro_rules | `(tactic| tm_at "sx1") => `(tactic| with_reducible first
  | refine w_var rfl ?_
  | refine w_c ?_
  | refine w_op ?_
  | refine w_seq ?_
  | refine w_asg ?_
  | refine w_gname ?_
  | refine w_ret ?_
  | refine w_nil ?_
  | refine w_cons ?_
  | refine w_tup ?_
  | refine w_lst ?_
  | refine w_cb ?_
  | refine w_callR ?_
  | refine w_i0 ?_
  | refine w_gcons ?_
  | refine w_gnil ?_
  | refine w_test ?_
  | refine w_not ?_
  | refine w_ifs ?_
  | refine w_if ?_
  | refine w_expr ?_
  | refine w_eqI ?_
  | refine w_neI ?_
  | refine w_eqS ?_
  | refine w_neS ?_
  | refine w_or ?_
  | refine w_and ?_
  | refine w_par3 ?_
  | refine w_andV ?_
  | refine w_notV ?_
  | refine w_lcS ?_
  | refine w_forE ?_
  | refine w_m1 ?_
  | refine w_forL ?_
  | refine w_forR1 ?_
  | refine w_isN ?_
  | refine w_notN ?_
  | refine w_fld ?_
  | refine w_methR ?_
  | refine w_propR ?_
  | refine w_propA ?_
  | refine w_methA ?_
  | refine w_subA ?_
  | refine w_makeS ?_
  | refine w_fldS ?_
  | refine w_chain ?_
  | refine w_orV ?_
  | refine w_next ?_
  | refine w_tB ?_
  | refine w_lcL ?_
  | refine w_lcT ?_
  | refine w_lcR1 ?_
  | refine w_lcR1W ?_
  | refine w_turnW ?_
  | refine w_sl ?_
  | refine w_part ?_
  | refine w_nopart ?_
  | refine w_lcR2 ?_
  | refine w_turn ?_
  | refine w_yes ?_
  | refine w_par ?_
  | refine w_uI ?_
  | refine w_un ?_
  | refine w_one ?_)
local macro_rules | `(tactic| tm_at "at") => `(tactic| first | exact rfl | exact atI_nat rfl)
local macro_rules | `(tactic| tm_at "ix") => `(tactic| first
  | (with_reducible apply w_ixT; · tm_at "fact"
     · tm_at "at")
  | (with_reducible apply w_ixL; · tm_at "fact"
     · tm_at "at")
  | (with_reducible apply w_gtup; · tm_at "fact"
     · exact rfl))
local macro_rules | `(tactic| tm_at "sx") => `(tactic| repeat (first | tm_at "sx1" | tm_at "ix"))
def ABC : List Nat := [97, 98, 99, 122, 113, 114]
/-- refs to nets' numbers -/
def N3s (H : Hp) : List V → List T3 → Prop := Paired fun v n => ∃ b, v = .ref b ∧ H b = some (tup3 n)
theorem N3s.same {H H' : Hp} {vs : List V} {ps : List T3} (s : Same H H') (h : N3s H vs ps) : N3s H' vs ps := Paired.mapP h fun _ _ ⟨b, e, hb⟩ => ⟨b, e, s _ _ hb⟩
theorem N3s.chg {H H' : Hp} {p : Addr} {o : HO} {vs : List V} {ps : List T3} (c : Chg p o H H') (d : ∀ xs, HO.tup xs ≠ o) (h : N3s H vs ps) : N3s H' vs ps := Paired.mapP h fun _ _ ⟨b, e, hb⟩ => ⟨b, e, c.up hb (d _)⟩
theorem N3s.len {H : Hp} {vs : List V} {ps : List T3} (h : N3s H vs ps) : vs.length = ps.length := Paired.length h
theorem N3s.snoc {H : Hp} {b : Addr} {q : T3} {vs : List V} {ps : List T3} (h : N3s H vs ps) (hb : H b = some (tup3 q)) : N3s H (vs ++ [.ref b]) (ps ++ [q]) := by
  induction h with
  | nil => exact .cons ⟨b, rfl, hb⟩ .nil
  | cons r _ ih => exact .cons r ih
theorem N3s.at {H : Hp} {vs : List V} {ps : List T3} {i : Nat} {v : V} (h : N3s H vs ps) (e : vs[i]? = some v) : ∃ b p, v = .ref b ∧ H b = some (tup3 p) ∧ ps[i]? = some p := by
  induction h generalizing i with
  | nil => cases e
  | @cons a b l1 l2 r _ ih =>
    cases i with
    | zero => obtain ⟨c, ec, hc⟩ := r; cases e; exact ⟨c, b, ec, hc, rfl⟩
    | succ i => exact ih (i := i) e
theorem N3s.get {H : Hp} {vs : List V} {ps : List T3} {i : Nat} {p : T3} (h : N3s H vs ps) (e : ps[i]? = some p) : ∃ b, vs[i]? = some (.ref b) ∧ H b = some (tup3 p) := by
  induction h generalizing i with
  | nil => cases e
  | @cons a b l1 l2 r _ ih =>
    cases i with
    | zero => obtain ⟨c, ec, hc⟩ := r; cases e; exact ⟨c, by rw [ec]; rfl, hc⟩
    | succ i => exact ih (i := i) e
theorem atI_int {α : Type} {xs : List α} {d : Int} {v : α} (h0 : 0 ≤ d) (h : xs[d.toNat]? = some v) : atI xs d = some v := by
  have := atI_nat (j := d.toNat) h
  rwa [show ((d.toNat : Nat) : Int) = d by omega] at this
section
variable {P : Program} {w : World} {K : PySem.W.Frag} {mg : Str → Option Value} {base : Heap}
def sp__law_net (K : PySem.W.Frag) : Sp := fun vs H Q _ => ∃ (T l : Addr) (most : Int), vs = [.ref T, .int most] ∧ TapeV H T l ∧ 1 ≤ most ∧ most ≤ 1000 ∧ ∀ u N H', Kp T H H' → TapeV H' T l → H' u = some (tup3 N) → NV N → N.1 * N.2.2 ≤ most → Q (.ref u) H'
theorem ok__law_net (T : Tx K mg) : FnR P w K mg base CX0 2 (He.ga K "_law_net") (sp__law_net K) := by
  refine fnr_of T.f__law_net sc__law_net (fun _ _ _ _ _ _ us hl => match us, hl with | [_, _], _ => rfl) (fun vs H Q E h => by obtain ⟨_, _, _, rfl, _⟩ := h; rfl) (fun cdv A outer s H vs Q E hr h => ?_)
  have nd := sc__law_net.nd
  refine ⟨_, (pss_cons (ps_set (i := 2) nd rfl (Or.inl rfl) (pe_op op_add pe_int (pe_callR (ok__law_draw T) (hr.mono (by decide)) rfl T.g__law_draw T.k__law_draw (pa_cons (pv 0) (pa_cons (pv 1) pa_nil)))))
    (pss_one (ps_ret (pe_tupS (pa_cons (pv 2) (pa_cons (pe_callR (ok__law_draw T) (hr.mono (by decide)) rfl T.g__law_draw T.k__law_draw (pa_cons (pv 0) (pa_cons (pv 2) pa_nil))) (pa_cons (pe_op op_add pe_int (pe_callR (ok__law_draw T) (hr.mono (by decide)) rfl T.g__law_draw T.k__law_draw (pa_cons (pv 0) (pa_cons (pe_op op_fdiv (pv 1) (pv 2)) pa_nil)))) pa_nil))))))), ?_⟩
  try dsimp only [cxOf]
  obtain ⟨T0, l, most, rfl, hT, m1, m2, q⟩ := h
  tm_at "sx"
  refine ⟨T0, l, most, rfl, hT, m1, by omega, fun d1 H1 d10 d11 k1 t1 => ?_⟩
  tm_at "sx"
  refine ⟨T0, l, 1 + d1, rfl, t1, by omega, by omega, fun d2 H2 d20 d21 k2 t2 => ?_⟩
  tm_at "sx"
  refine w_iC ⟨by omega, by omega⟩ ?_
  tm_at "sx"
  have hq1 : 1 ≤ most / (1 + d1) := (Int.le_ediv_iff_mul_le (by omega)).mpr (by omega)
  have hq2 : most / (1 + d1) ≤ most := Int.ediv_le_self _ (by omega)
  refine ⟨T0, l, most / (1 + d1), rfl, t2, hq1, by omega, fun d3 H3 d30 d31 k3 t3 => ?_⟩
  tm_at "sx"
  refine ⟨by show 3 ≤ sizeLine; decide, fun u H4 n4 s4 e4 => ?_⟩
  refine q u (1 + d1, d2, 1 + d3) H4 (k1.trans (k2.trans (k3.trans (Kp.of s4)))) (t3.same s4) e4 ⟨by show 1 ≤ 1 + d1; omega, d20, d21, by show 1 ≤ 1 + d3; omega⟩ ?_
  show (1 + d1) * (1 + d3) ≤ most
  have h1 : (1 + d1) * (1 + d3) ≤ (1 + d1) * (most / (1 + d1)) := Int.mul_le_mul_of_nonneg_left (by omega) (by omega)
  have h2 : (1 + d1) * (most / (1 + d1)) ≤ most := Int.mul_ediv_self_le (by omega)
  omega
def sp__law_letters (K : PySem.W.Frag) : Sp := fun vs H Q _ => ∃ (T l : Addr) (many : Int), vs = [.ref T, .int many] ∧ TapeV H T l ∧ 0 ≤ many ∧ many ≤ 4000 ∧ ∀ L H', Kp T H H' → TapeV H' T l → (L.length : Int) = many → (∀ c ∈ L, c ∈ ABC) → Q (.str (txt L)) H'
theorem ok__law_letters (T : Tx K mg) : FnR P w K mg base CX0 2 (He.ga K "_law_letters") (sp__law_letters K) := by
  refine fnr_of T.f__law_letters sc__law_letters (fun _ _ _ _ _ _ us hl => match us, hl with | [_, _], _ => rfl) (fun vs H Q E h => by obtain ⟨_, _, _, rfl, _⟩ := h; rfl) (fun cdv A outer s H vs Q E hr h => ?_)
  have nd := sc__law_letters.nd
  refine ⟨_, (pss_cons (ps_set (i := 2) nd rfl (Or.inr rfl) (pe_ix ix_list (pe_lstS (pa_cons pe_str (pa_cons pe_str (pa_cons pe_str (pa_cons pe_str pa_nil))))) (pe_callR (ok__law_draw T) (hr.mono (by decide)) rfl T.g__law_draw T.k__law_draw (pa_cons (pv 0) (pa_cons pe_int pa_nil))) (fun _ _ => rfl)))
    (pss_one (ps_ret (pe_join pe_str (pe_lcR1W (own := [("_law_k", 3)]) (g := (gName 3)) rfl nd rfl T.b_range (pa_cons (pv 1) pa_nil) (blkOk_by (N := N_law_letters) (sc := defScope s_law_letters) (by decide +kernel)) (fun _ _ _ _ _ => (pg_name (i := 3) nd rfl (Or.inl rfl))) (fun _ _ _ _ _ => pts_nil) (fun _ _ _ _ _ => (pe_ix ix_str (pv 2) (pe_callR (ok__law_draw T) (hr.mono (by decide)) rfl T.g__law_draw T.k__law_draw (pa_cons (pv 0) (pa_cons (pe_callB (r := rLenK K) call_len rfl T.b_len bo_len (pa_cons (pv 2) pa_nil)) pa_nil))) (fun _ _ => rfl)))))))), ?_⟩
  try dsimp only [cxOf]
  obtain ⟨T0, l, many, rfl, hT, m1, m2, q⟩ := h
  have hsl := sizeLine_eq
  tm_at "sx"
  refine ⟨by show 4 ≤ sizeLine; decide, fun l4 H1 n1 s1 e1 => ?_⟩
  have t1 := hT.same s1
  have n1' := hT.ne n1
  tm_at "sx"
  refine ⟨T0, l, 4, rfl, t1, by decide, by decide, fun d H2 d0 d1 k2 t2 => ?_⟩
  have e2 := k2 _ _ n1'.1 e1
  obtain ⟨S, hS, hS1, hS2, hS3⟩ : ∃ S : List Nat, [V.str (txt [97, 98]), V.str (txt [97, 98, 99]), V.str (txt [97, 122]), V.str (txt [113, 114, 98])][d.toNat]? = some (V.str (txt S)) ∧ 1 ≤ S.length ∧ S.length ≤ 3 ∧ ∀ c ∈ S, c ∈ ABC := by
    have : d.toNat < 4 := by omega
    match d.toNat, this with
    | 0, _ => exact ⟨_, rfl, by decide, by decide, by decide⟩
    | 1, _ => exact ⟨_, rfl, by decide, by decide, by decide⟩
    | 2, _ => exact ⟨_, rfl, by decide, by decide, by decide⟩
    | 3, _ => exact ⟨_, rfl, by decide, by decide, by decide⟩
  have hconst : [V.str "ab", V.str "abc", V.str "az", V.str "qrb"] = [V.str (txt [97, 98]), V.str (txt [97, 98, 99]), V.str (txt [97, 122]), V.str (txt [113, 114, 98])] := by decide +kernel
  refine w_ixL (sl_of e2) (atI_int d0 (by rw [hconst]; exact hS)) ?_
  tm_at "sx"
  refine ⟨⟨_, rfl⟩, ?_⟩
  tm_at "sx"
  have k02 : Kp T0 H H2 := (Kp.of s1).trans k2
  refine ⟨many.toNat, by rw [show ((many.toNat : Nat) : Int) = many by omega], by omega, fun i acc H' => Kp T0 H2 H' ∧ TapeV H' T0 l ∧ ∃ cs : List Nat, acc = cs.map (fun c => V.str (one1 c)) ∧ cs.length = i ∧ ∀ c ∈ cs, c ∈ ABC, fun H' s => ⟨Kp.of s, t2.same s, [], rfl, rfl, fun _ h => by cases h⟩, fun D i v acc H' hi hx hD e p => ?_, fun D acc H' hD e p => ?_⟩
  · obtain ⟨k3, t3, cs, rfl, hcs, hc⟩ := p
    have nD := t2.ne hD
    tm_at "sx"
    refine ⟨rfl, ?_⟩
    tm_at "sx"
    refine ⟨_, S.length, rfl, ⟨by show S.toArray.size ≤ sizeLine; rw [List.size_toArray]; omega, by show _ = S.toArray.size; rw [List.size_toArray]⟩, ?_⟩
    tm_at "sx"
    refine ⟨T0, l, S.length, rfl, t3, by omega, by omega, fun d' H4 d0' d1' k4 t4 => ?_⟩
    have hlt : d'.toNat < S.length := by omega
    refine ⟨_, _, S[d'.toNat], rfl, rfl, ?_, atI_int d0' ?_, k4 _ _ nD.1 e, fun H5 c e5 => ⟨(k3.trans k4).chg c hD, t4.chg c nD, cs ++ [S[d'.toNat]], by rw [List.map_append]; rfl, by rw [List.length_append, hcs]; rfl, fun c hc' => ?_⟩⟩
    · show S.toArray.size ≤ sizeLine; rw [List.size_toArray]; omega
    · show S[d'.toNat]? = _
      exact List.getElem?_eq_getElem hlt
    · rcases List.mem_append.mp hc' with z | z
      · exact hc c z
      · obtain rfl : c = S[d'.toNat] := by simpa using z
        exact hS3 _ (List.getElem_mem hlt)
  · obtain ⟨k3, t3, cs, rfl, hcs, hc⟩ := p
    refine ⟨_, D, cs.map one1, rfl, rfl, .inl (join_sl (sl_of e)), join_len _ (by omega), ?_⟩
    rw [join0]
    exact q cs H' (k02.trans k3) t3 (by omega) hc
def sqN (s d : Int) : List T3 := [(s, 0, s), (2 * s, s, s), (s, 0, 1 + d)]
def sp__law_square (K : PySem.W.Frag) : Sp := fun vs H Q _ => ∃ (T l : Addr), vs = [.ref T, .int 20] ∧ TapeV H T l ∧ ∀ u N H', Kp T H H' → TapeV H' T l → H' u = some (tup3 N) → NV N → N.1 * N.2.2 ≤ 20 → Q (.ref u) H'
theorem ok__law_square (T : Tx K mg) : FnR P w K mg base CX0 2 (He.ga K "_law_square") (sp__law_square K) := by
  refine fnr_of T.f__law_square sc__law_square (fun _ _ _ _ _ _ us hl => match us, hl with | [_, _], _ => rfl) (fun vs H Q E h => by obtain ⟨_, _, rfl, _⟩ := h; rfl) (fun cdv A outer s H vs Q E hr h => ?_)
  have nd := sc__law_square.nd
  refine ⟨_, (pss_cons (ps_set (i := 2) nd rfl (Or.inl rfl) (pe_op op_add pe_int (pe_callR (ok__law_draw T) (hr.mono (by decide)) rfl T.g__law_draw T.k__law_draw (pa_cons (pv 0) (pa_cons (pe_ix ix_list (pe_lstS (pa_cons pe_int (pa_cons pe_int pa_nil))) (pe_callTy call_int1 rfl T.b_int bo_int (pa_cons (pe_cmpR op_gt (pv 1) pe_int (nomark _)) pa_nil)) (fun _ _ => rfl)) pa_nil)))))
    (pss_cons (ps_set (i := 3) nd rfl (Or.inl rfl) (pe_lstS (pa_cons (pe_tupS (pa_cons (pv 2) (pa_cons pe_int (pa_cons (pv 2) pa_nil)))) (pa_cons (pe_tupS (pa_cons (pe_op op_mul pe_int (pv 2)) (pa_cons (pv 2) (pa_cons (pv 2) pa_nil)))) (pa_cons (pe_tupS (pa_cons (pv 2) (pa_cons pe_int (pa_cons (pe_op op_add pe_int (pe_callR (ok__law_draw T) (hr.mono (by decide)) rfl T.g__law_draw T.k__law_draw (pa_cons (pv 0) (pa_cons (pe_op op_fdiv (pv 1) (pv 2)) pa_nil)))) pa_nil)))) pa_nil)))))
    (pss_one (ps_ret (pe_ix ix_list (pe_lcL (own := [("_law_net_here", 4)]) (g := (gName 4)) rfl nd (pv 3) (blkOk_by (N := N_law_square) (sc := defScope s_law_square) (by decide +kernel)) (fun _ _ _ _ _ => (pg_name (i := 4) nd rfl (Or.inl rfl))) (fun _ _ _ _ _ => (pts_one (pt_cmpR op_le (pe_op op_mul (pe_ix (r := rIxT K) ix_tup (pv 4) pe_int (fun _ _ => rfl)) (pe_ix (r := rIxT K) ix_tup (pv 4) pe_int (fun _ _ => rfl))) (pv 1) (nomark _)))) (fun _ _ _ _ _ => (pv 4))) (pe_callR (ok__law_draw T) (hr.mono (by decide)) rfl T.g__law_draw T.k__law_draw (pa_cons (pv 0) (pa_cons pe_int pa_nil))) (fun _ _ => rfl)))))), ?_⟩
  try dsimp only [cxOf]
  obtain ⟨T0, l, rfl, hT, q⟩ := h
  have hsl := sizeLine_eq
  tm_at "sx"
  refine ⟨by show 2 ≤ sizeLine; decide, fun l2 H1 n1 s1 e1 => ?_⟩
  have t1 := hT.same s1
  tm_at "sx"
  refine .inr ⟨_, rfl, ?_⟩
  show rIxL K (.ref l2) (.int (if decide ((15 : Int) < 20) = true then 1 else 0)) H1 _
  refine w_ixL (sl_of e1) (atI_nat (j := 1) rfl) ?_
  tm_at "sx"
  refine ⟨T0, l, 4, rfl, t1, by decide, by decide, fun d1 H2 d10 d11 k2 t2 => ?_⟩
  tm_at "sx"
  have k02 : Kp T0 H H2 := (Kp.of s1).trans k2
  refine ⟨by show 3 ≤ sizeLine; decide, fun b1 H3 n3 s3 e3 => ?_⟩
  tm_at "sx"
  refine w_iC (.inl ⟨by decide, by decide⟩) ?_
  tm_at "sx"
  refine ⟨by show 3 ≤ sizeLine; decide, fun b2 H4 n4 s4 e4 => ?_⟩
  tm_at "sx"
  refine w_iC ⟨by omega, by omega⟩ ?_
  tm_at "sx"
  have s24 := Same.trans s3 s4
  have t4 := t2.same s24
  have hq1 : 1 ≤ 20 / (1 + d1) := (Int.le_ediv_iff_mul_le (by omega)).mpr (by omega)
  have hq2 : 20 / (1 + d1) ≤ 20 := Int.ediv_le_self _ (by omega)
  refine ⟨T0, l, 20 / (1 + d1), rfl, t4, hq1, by omega, fun d2 H5 d20 d21 k5 t5 => ?_⟩
  tm_at "sx"
  have e35 := k5.up t4 (s4 _ _ e3) (fun _ z => nomatch z)
  have e45 := k5.up t4 e4 (fun _ z => nomatch z)
  refine ⟨by show 3 ≤ sizeLine; decide, fun b3 H6 n6 s6 e6 => ?_⟩
  tm_at "sx"
  refine ⟨by show 3 ≤ sizeLine; decide, fun sl H7 n7 s7 e7 => ?_⟩
  have s57 := Same.trans s6 s7
  tm_at "sx"
  have t7 := t5.same s57
  have hxs : N3s H7 [.ref b1, .ref b2, .ref b3] (sqN (1 + d1) d2) := .cons ⟨b1, rfl, s57 _ _ e35⟩ (.cons ⟨b2, rfl, s57 _ _ e45⟩ (.cons ⟨b3, rfl, s7 _ _ e6⟩ .nil))
  have k07 : Kp T0 H H7 := k02.trans ((Kp.of s24).trans (k5.trans (Kp.of s57)))
  have hbd : (1 + d1) * (1 + d2) ≤ 20 := by
    have h1 : (1 + d1) * (1 + d2) ≤ (1 + d1) * (20 / (1 + d1)) := Int.mul_le_mul_of_nonneg_left (by omega) (by omega)
    have h2 : (1 + d1) * (20 / (1 + d1)) ≤ 20 := Int.mul_ediv_self_le (by omega)
    omega
  have hss : (1 + d1) * (1 + d1) ≤ 16 := by
    have h1 : (1 + d1) * (1 + d1) ≤ 4 * 4 := Int.mul_le_mul (by omega) (by omega) (by omega) (by omega)
    omega
  refine ⟨sl, _, rfl, sl_of e7, by show 3 < sizeLine; decide, fun i acc H' => N3s H' acc (((sqN (1 + d1) d2).take i).filter fun n => decide (n.1 * n.2.2 ≤ 20)), fun _ _ => .nil, fun D i v acc H' hi hx hD s8 e8 p => ?_, fun D acc H' hD s8 e8 p => ?_⟩
  · obtain ⟨b, n, rfl, hb, hn⟩ := (hxs.same s8).at hx
    have hnb : n.1 < 2 ^ 30 ∧ -(2 ^ 30) < n.1 := by
      match i, hi, hn with
      | 0, _, hn => obtain rfl := Option.some.inj hn; constructor <;> (dsimp only; omega)
      | 1, _, hn => obtain rfl := Option.some.inj hn; constructor <;> (dsimp only; omega)
      | 2, _, hn => obtain rfl := Option.some.inj hn; constructor <;> (dsimp only; omega)
    tm_at "sx"
    refine ⟨rfl, ?_⟩
    tm_at "sx"
    refine w_iC (.inl ⟨by omega, by omega⟩) ?_
    tm_at "sx"
    refine ⟨_, rfl, ?_⟩
    have hstep : ((sqN (1 + d1) d2).take (i + 1)).filter (fun n => decide (n.1 * n.2.2 ≤ 20)) = ((sqN (1 + d1) d2).take i).filter (fun n => decide (n.1 * n.2.2 ≤ 20)) ++ (if n.1 * n.2.2 ≤ 20 then [n] else []) := by
      rw [List.take_add_one, hn, List.filter_append]
      congr 1
      by_cases hk : n.1 * n.2.2 ≤ 20 <;> simp [hk]
    rw [hstep]
    by_cases hk : n.1 * n.2.2 ≤ 20
    · rw [decide_eq_true hk, if_pos hk]
      refine w_tt ?_
      tm_at "sx"
      exact ⟨e8, s8, fun H9 c s9 => (p.chg c (fun _ z => nomatch z)).snoc (c.up hb (fun z => nomatch z))⟩
    · rw [decide_eq_false hk, if_neg hk, List.append_nil]
      exact w_ff ⟨e8, s8, p⟩
  · have p2 : N3s H' acc ((sqN (1 + d1) d2).filter fun n => decide (n.1 * n.2.2 ≤ 20)) := p
    have t8 := t7.same s8
    tm_at "sx"
    refine ⟨T0, l, 2, rfl, t8, by decide, by decide, fun d3 H9 d30 d31 k9 t9 => ?_⟩
    obtain ⟨n, hn, hnv, hn20⟩ : ∃ n : T3, ((sqN (1 + d1) d2).filter fun n => decide (n.1 * n.2.2 ≤ 20))[d3.toNat]? = some n ∧ NV n ∧ n.1 * n.2.2 ≤ 20 := by
      have v1 : NV (1 + d1, 0, 1 + d1) := ⟨by dsimp only; omega, Int.le_refl 0, by dsimp only; omega, by dsimp only; omega⟩
      have v3 : NV (1 + d1, 0, 1 + d2) := ⟨by dsimp only; omega, Int.le_refl 0, by dsimp only; omega, by dsimp only; omega⟩
      have v2 : NV (2 * (1 + d1), 1 + d1, 1 + d1) := ⟨by dsimp only; omega, by dsimp only; omega, by dsimp only; omega, by dsimp only; omega⟩
      have f1 : decide ((1 + d1) * (1 + d1) ≤ 20) = true := decide_eq_true (by omega)
      have f3 : decide ((1 + d1) * (1 + d2) ≤ 20) = true := decide_eq_true hbd
      have hd3 : d3.toNat = 0 ∨ d3.toNat = 1 := by omega
      by_cases h2 : 2 * (1 + d1) * (1 + d1) ≤ 20
      · have ef : (sqN (1 + d1) d2).filter (fun n => decide (n.1 * n.2.2 ≤ 20)) = sqN (1 + d1) d2 := by
          unfold sqN
          simp only [List.filter_cons, List.filter_nil, f1, f3, decide_eq_true h2, if_true]
        rw [ef]
        rcases hd3 with h | h
        · exact ⟨_, by rw [h]; rfl, v1, by dsimp only; omega⟩
        · exact ⟨_, by rw [h]; rfl, v2, h2⟩
      · have ef : (sqN (1 + d1) d2).filter (fun n => decide (n.1 * n.2.2 ≤ 20)) = [(1 + d1, 0, 1 + d1), (1 + d1, 0, 1 + d2)] := by
          unfold sqN
          simp only [List.filter_cons, List.filter_nil, f1, f3, decide_eq_false h2, if_true, Bool.false_eq_true, if_false]
        rw [ef]
        rcases hd3 with h | h
        · exact ⟨_, by rw [h]; rfl, v1, by dsimp only; omega⟩
        · exact ⟨_, by rw [h]; rfl, v3, hbd⟩
    obtain ⟨b, hb1, hb2⟩ := p2.get hn
    have nD := t7.ne hD
    have e9 := k9 _ _ nD.1 e8
    refine w_ixL (sl_of e9) (atI_int d30 hb1) ?_
    exact q b n H9 (k07.trans ((Kp.of s8).trans k9)) t9 (k9.up t8 hb2 (fun _ z => nomatch z)) hnv hn20
end
end Cp
set_option Elab.async false
set_option linter.all false
set_option maxRecDepth 100000
set_option maxHeartbeats 2000000
/-! F31: copies, motions, carpets made. -/
namespace Cp
open PySem PySem.Spec PyProof.Rows L2
local macro_rules | `(tactic| tm_at "fact") => `(tactic| first
  | assumption
  | (apply Same.up; · assumption
     tm_at "fact")
  | (apply Same.upS; · assumption
     tm_at "fact")
  | (apply Same.upL; · assumption
     tm_at "fact")
  | (apply sq_of; tm_at "fact")
  | (apply sl_of; tm_at "fact")
  | (apply Chg.up; · assumption
     · tm_at "fact"
     · exact fun z => nomatch z)
  | (apply Chg.upS; · assumption
     · tm_at "fact"
     · exact fun _ z => nomatch z
     · exact fun _ _ z => nomatch z))
local macro_rules | `(tactic| tm_at "same") => `(tactic| first
  | assumption
  | exact Same.refl _
  | (refine Same.trans ?_ ?_; rotate_left; · assumption
     tm_at "same"))
local macro_rules | `(tactic| tm_at "sx1") => `(tactic| with_reducible first
  | refine w_var rfl ?_
  | refine w_c ?_
  | refine w_op ?_
  | refine w_seq ?_
  | refine w_asg ?_
  | refine w_gname ?_
  | refine w_ret ?_
  | refine w_nil ?_
  | refine w_cons ?_
  | refine w_tup ?_
  | refine w_lst ?_
  | refine w_cb ?_
  | refine w_callR ?_
  | refine w_i0 ?_
  | refine w_gcons ?_
  | refine w_gnil ?_
  | refine w_test ?_
  | refine w_not ?_
  | refine w_ifs ?_
  | refine w_if ?_
  | refine w_expr ?_
  | refine w_eqI ?_
  | refine w_neI ?_
  | refine w_eqS ?_
  | refine w_neS ?_
  | refine w_or ?_
  | refine w_and ?_
  | refine w_par3 ?_
  | refine w_andV ?_
  | refine w_notV ?_
  | refine w_lcS ?_
  | refine w_forE ?_
  | refine w_m1 ?_
  | refine w_forL ?_
  | refine w_forR1 ?_
  | refine w_isN ?_
  | refine w_notN ?_
  | refine w_fld ?_
  | refine w_methR ?_
  | refine w_propR ?_
  | refine w_propA ?_
  | refine w_methA ?_
  | refine w_subA ?_
  | refine w_makeS ?_
  | refine w_fldS ?_
  | refine w_chain ?_
  | refine w_orV ?_
  | refine w_next ?_
  | refine w_tB ?_
  | refine w_lcL ?_
  | refine w_lcT ?_
  | refine w_lcR1 ?_
  | refine w_lcR1W ?_
  | refine w_turnW ?_
  | refine w_sl ?_
  | refine w_part ?_
  | refine w_nopart ?_
  | refine w_lcR2 ?_
  | refine w_turn ?_
  | refine w_yes ?_
  | refine w_par ?_
  | refine w_uI ?_
  | refine w_un ?_
  | refine w_one ?_)
local macro_rules | `(tactic| tm_at "at") => `(tactic| first | exact rfl | exact atI_nat rfl)
local macro_rules | `(tactic| tm_at "ix") => `(tactic| first
  | (with_reducible apply w_ixT; · tm_at "fact"
     · tm_at "at")
  | (with_reducible apply w_ixL; · tm_at "fact"
     · tm_at "at")
  | (with_reducible apply w_gtup; · tm_at "fact"
     · exact rfl))
local macro_rules | `(tactic| tm_at "sx") => `(tactic| repeat (first | tm_at "sx1" | tm_at "ix"))
theorem nv_ok {n : T3} (h : NV n) (z : n.1 * n.2.2 ≤ 20) : NOk n := ⟨h.a1, h.b0, h.ba, h.c1, by omega⟩
theorem nv_small {n : T3} (h : NV n) (z : n.1 * n.2.2 ≤ 20) : n.1 ≤ 20 ∧ n.2.2 ≤ 20 := by
  have h1 := h.a1; have h2 := h.c1
  constructor
  · have := Int.mul_le_mul_of_nonneg_left h2 (show 0 ≤ n.1 by omega); omega
  · have := Int.mul_le_mul_of_nonneg_right h1 (show 0 ≤ n.2.2 by omega); omega
/-- the rows of a text -/
def rowsL (L : List Nat) (a c : Nat) : List (List Nat) := (List.range c).map fun k => (L.drop (a * k)).take a
theorem rows_flat (L : List Nat) (a : Nat) : ∀ c : Nat, (rowsL L a c).flatten = L.take (a * c)
  | 0 => by simp [rowsL]
  | c + 1 => by
    have e : rowsL L a (c + 1) = rowsL L a c ++ [(L.drop (a * c)).take a] := by unfold rowsL; rw [List.range_succ, List.map_append]; rfl
    rw [e, List.flatten_append, rows_flat L a c, List.flatten_cons, List.flatten_nil, List.append_nil, Nat.mul_succ, List.take_add]
theorem cut_row (L : List Nat) {a k c : Nat} (hL : L.length = a * c) (hk : k < c) : cutS (txt L) (some ((a * k : Nat) : Int)) (some ((a * k + a : Nat) : Int)) = txt ((L.drop (a * k)).take a) := by
  have h1 : a * k + a ≤ L.length := by
    rw [hL]
    have := Nat.mul_le_mul_left a (show k + 1 ≤ c by omega)
    rw [Nat.mul_succ] at this
    exact this
  unfold cutS
  have hl : (txt L).length = L.length := by show L.toArray.size = _; rw [List.size_toArray]
  rw [hl, HT.sIx_nat, HT.sIx_nat, Nat.min_eq_left h1, Nat.min_eq_left (show a * k ≤ L.length by omega), show a * k + a - a * k = a by omega]
section
variable {P : Program} {w : World} {K : PySem.W.Frag} {mg : Str → Option Value} {base : Heap}
def sp__law_copied (K : PySem.W.Frag) : Sp := fun vs H Q _ => ∃ (T l t : Addr) (n : T3) (L : List Nat), vs = [.ref T, .ref t, .str (txt L), .int 20] ∧ TapeV H T l ∧ H t = some (tup3 n) ∧ TOk n L ∧ n.1 * n.2.2 ≤ 20 ∧
  ∀ u N X H', Kp T H H' → TapeV H' T l → NsV H' u N X → TOk N X → N.1 * N.2.2 ≤ 20 → (∀ c ∈ X, c ∈ L) → Q (.ref u) H'
theorem ok__law_copied (T : Tx K mg) : FnR P w K mg base CX0 3 (He.ga K "_law_copied") (sp__law_copied K) := by
  refine fnr_of T.f__law_copied sc__law_copied (fun _ _ _ _ _ _ us hl => match us, hl with | [_, _, _, _], _ => rfl) (fun vs H Q E h => by obtain ⟨_, _, _, _, _, rfl, _⟩ := h; rfl) (fun cdv A outer s H vs Q E hr h => ?_)
  have nd := sc__law_copied.nd
  refine ⟨_, (pss_cons (ps_par (i := 4) (j := 5) rfl nd rfl rfl (by decide) rfl rfl (pa_cons (pe_op op_add pe_int (pe_callR (ok__law_draw T) (hr.mono (by decide)) rfl T.g__law_draw T.k__law_draw (pa_cons (pv 0) (pa_cons pe_int pa_nil)))) (pa_cons (pe_op op_add pe_int (pe_callR (ok__law_draw T) (hr.mono (by decide)) rfl T.g__law_draw T.k__law_draw (pa_cons (pv 0) (pa_cons pe_int pa_nil)))) pa_nil)) rfl)
    (pss_cons (ps_if (pt_cmpR op_gt (pe_op op_mul (pe_op op_mul (pe_op op_mul (pe_ix ix_tup (pv 1) pe_int (fun _ _ => rfl)) (pv 4)) (pe_ix ix_tup (pv 1) pe_int (fun _ _ => rfl))) (pv 5)) (pv 3) (nomark _)) (pss_one (ps_ret (pe_tupS (pa_cons (pv 1) (pa_cons (pv 2) pa_nil))))) pss_nil)
    (pss_cons (ps_set (i := 6) nd rfl (Or.inl rfl) (pe_tupS (pa_cons (pe_op op_mul (pe_ix ix_tup (pv 1) pe_int (fun _ _ => rfl)) (pv 4)) (pa_cons (pe_op op_mod (pe_op op_mul (pe_ix ix_tup (pv 1) pe_int (fun _ _ => rfl)) (pv 5)) (pe_op op_mul (pe_ix ix_tup (pv 1) pe_int (fun _ _ => rfl)) (pv 4))) (pa_cons (pe_op op_mul (pe_ix ix_tup (pv 1) pe_int (fun _ _ => rfl)) (pv 5)) pa_nil)))))
    (pss_one (ps_ret (pe_tupS (pa_cons (pv 6) (pa_cons (pe_join pe_str (pe_lcL (own := [("_law_spot", 7)]) (g := (gName 7)) rfl nd (pe_callR (ok__law_spots T) (hr.mono (by decide)) rfl T.g__law_spots T.k__law_spots (pa_cons (pv 6) pa_nil)) (blkOk_by (N := N_law_copied) (sc := defScope s_law_copied) (by decide +kernel)) (fun _ _ _ _ _ => (pg_name (i := 7) nd rfl (Or.inl rfl))) (fun _ _ _ _ _ => pts_nil) (fun _ _ _ _ _ => (pe_callR (ok__law_seen T) (hr.mono (by decide)) rfl T.g__law_seen T.k__law_seen (pa_cons (pv 1) (pa_cons (pv 2) (pa_cons (pv 7) pa_nil))))))) pa_nil)))))))), ?_⟩
  try dsimp only [cxOf]
  obtain ⟨T0, l, t, n, L, rfl, hT, ht, ok, hz, q⟩ := h
  have hsl := sizeLine_eq
  have a1 := ok.net.a1; have c1 := ok.net.c1; have b0 := ok.net.b0; have ba := ok.net.ba
  obtain ⟨a2, c2⟩ := nv_small ok.net.nv hz
  tm_at "sx"
  refine ⟨T0, l, 3, rfl, hT, by decide, by decide, fun d1 H1 d10 d11 k1 t1 => ?_⟩
  tm_at "sx"
  refine ⟨T0, l, 2, rfl, t1, by decide, by decide, fun d2 H2 d20 d21 k2 t2 => ?_⟩
  have k02 := k1.trans k2
  have ht2 : H2 t = some (tup3 n) := k02.up hT ht (fun _ z => nomatch z)
  tm_at "sx"
  refine ⟨_, _, rfl, ?_⟩
  tm_at "sx"
  refine w_iC (.inl ⟨by omega, by omega⟩) ?_
  tm_at "sx"
  refine w_iC (.inr ⟨by omega, by omega⟩) ?_
  tm_at "sx"
  refine w_iC (.inr ⟨by omega, by omega⟩) ?_
  tm_at "sx"
  refine ⟨_, rfl, ?_⟩
  by_cases hgt : 20 < n.1 * (1 + d1) * n.2.2 * (1 + d2)
  · rw [decide_eq_true hgt]
    refine w_tt ?_
    tm_at "sx"
    exact ⟨by show 2 ≤ sizeLine; decide, fun u H3 n3 s3 e3 => q u n L H3 (k02.trans (Kp.of s3)) (t2.same s3) ⟨t, e3, s3 _ _ ht2⟩ ok hz fun _ h => h⟩
  · rw [decide_eq_false hgt]
    refine w_ff ?_
    tm_at "sx"
    refine w_iC (.inl ⟨by omega, by omega⟩) ?_
    tm_at "sx"
    refine w_iC (.inl ⟨by omega, by omega⟩) ?_
    tm_at "sx"
    refine w_iC (.inl ⟨by omega, by omega⟩) ?_
    tm_at "sx"
    have hA : 1 ≤ n.1 * (1 + d1) := by
      have := Int.mul_le_mul_of_nonneg_left (show 1 ≤ 1 + d1 by omega) (show 0 ≤ n.1 by omega)
      omega
    have hC : 1 ≤ n.2.2 * (1 + d2) := by
      have := Int.mul_le_mul_of_nonneg_left (show 1 ≤ 1 + d2 by omega) (show 0 ≤ n.2.2 by omega)
      omega
    refine w_iC (show (0 : Int) < n.1 * (1 + d1) by omega) ?_
    tm_at "sx"
    refine w_iC (.inl ⟨by omega, by omega⟩) ?_
    tm_at "sx"
    refine ⟨by show 3 ≤ sizeLine; decide, fun lg H3 n3 s3 e3 => ?_⟩
    have hN : NV (n.1 * (1 + d1), n.2.1 * (1 + d2) % (n.1 * (1 + d1)), n.2.2 * (1 + d2)) := ⟨hA, Int.emod_nonneg _ (by omega), Int.emod_lt_of_pos _ (by omega), hC⟩
    have hsz : n.1 * (1 + d1) * (n.2.2 * (1 + d2)) ≤ 20 := by rw [← Int.mul_assoc]; omega
    have Nok : NOk (n.1 * (1 + d1), n.2.1 * (1 + d2) % (n.1 * (1 + d1)), n.2.2 * (1 + d2)) := nv_ok hN hsz
    generalize hNe : ((n.1 * (1 + d1), n.2.1 * (1 + d2) % (n.1 * (1 + d1)), n.2.2 * (1 + d2)) : T3) = N at hN Nok
    have e3' : H3 lg = some (tup3 N) := by rw [← hNe]; exact e3
    have hsz' : N.1 * N.2.2 ≤ 20 := by rw [← hNe]; exact hsz
    clear e3
    tm_at "sx"
    refine ⟨⟨_, rfl⟩, ?_⟩
    tm_at "sx"
    refine ⟨lg, N, rfl, e3', Nok, fun l2 us2 H6 nl2 s6 e6 p6 => ?_⟩
    have hu2 : us2.length = (cellL N).length := p6.len
    have Nnat := Nok.nat
    have hcN : (cellL N).length ≤ 4000 := by rw [cellL_len]; omega
    refine ⟨l2, _, rfl, sl_of e6, by omega, fun i acc H' => acc = (((cellL N).take i).map fun p => V.str (one1 (colr n L p))), fun _ _ => rfl, fun D i v acc H' hi hx hD s7 e p => ?_, fun D acc H' hD s7 e p => ?_⟩
    · subst p
      obtain ⟨bx, p, rfl, hbx, hpi⟩ := (p6.same s7).at hx
      tm_at "sx"
      refine ⟨rfl, ?_⟩
      tm_at "sx"
      refine ⟨t, bx, n, L, p, rfl, s7 _ _ (s6 _ _ (s3 _ _ ht2)), ok, hbx, fun H8 s8 => ⟨s8 _ _ e, Same.trans s7 s8, fun H9 c s9 => ?_⟩⟩
      rw [List.take_add_one, hpi, List.map_append]; rfl
    · subst p
      rw [hu2, List.take_length] at e
      refine ⟨_, D, ((cellL N).map (colr n L)).map one1, rfl, rfl, .inl (join_sl (sl_of (by rw [List.map_map]; exact e))), join_len _ (by rw [List.length_map]; omega), ?_⟩
      rw [join0]
      tm_at "sx"
      have s37 := Same.trans s3 (Same.trans s6 s7)
      refine ⟨by show 2 ≤ sizeLine; decide, fun t' H8 nt s8 e8 => ?_⟩
      refine q t' N _ H8 (k02.trans (Kp.of (Same.trans s37 s8))) (t2.same (Same.trans s37 s8)) ⟨lg, e8, s8 _ _ (s7 _ _ (s6 _ _ e3'))⟩ ⟨Nok, by rw [List.length_map, cellL_len, Nnat]⟩ hsz' fun c hc => ?_
      obtain ⟨p, _, rfl⟩ := List.mem_map.mp hc
      exact colr_mem ok p
def sp__law_move (K : PySem.W.Frag) : Sp := fun vs H Q _ => ∃ (T l t : Addr) (n : T3), vs = [.ref T, .ref t] ∧ TapeV H T l ∧ H t = some (tup3 n) ∧ NOk n ∧
  ∀ u k s H', Kp T H H' → TapeV H' T l → MvV H' u k s → k ∈ KINDS → Q (.ref u) H'
theorem ok__law_move (T : Tx K mg) : FnR P w K mg base CX0 3 (He.ga K "_law_move") (sp__law_move K) := by
  refine fnr_of T.f__law_move sc__law_move (fun _ _ _ _ _ _ us hl => match us, hl with | [_, _], _ => rfl) (fun vs H Q E h => by obtain ⟨_, _, _, _, rfl, _⟩ := h; rfl) (fun cdv A outer s H vs Q E hr h => ?_)
  have nd := sc__law_move.nd
  refine ⟨_, (pss_cons (ps_setLcL (i := 2) (own := [("_law_kind", 3)]) (g := (gName 3)) rfl nd rfl rfl (sw_true rfl rfl rfl (by decide +kernel)) (pe_callR0 (ok__law_kinds T) (hr.mono (by decide)) rfl T.g__law_kinds T.k__law_kinds) (blkOk_by (N := N_law_move) (sc := defScope s_law_move) (by decide +kernel)) (fun _ _ _ _ _ => (pg_name (i := 3) nd rfl (Or.inl rfl))) (fun _ _ _ _ _ => (pts_one (pt_val (pe_callR (ok__law_keeps T) (hr.mono (by decide)) rfl T.g__law_keeps T.k__law_keeps (pa_cons (pv 1) (pa_cons (pv 3) pa_nil)))))) (fun _ _ _ _ _ => (pv 3)))
    (pss_one (ps_ret (pe_tupS (pa_cons (pe_ix ix_list (pv 2) (pe_callR (ok__law_draw T) (hr.mono (by decide)) rfl T.g__law_draw T.k__law_draw (pa_cons (pv 0) (pa_cons (pe_callB call_len rfl T.b_len bo_len (pa_cons (pv 2) pa_nil)) pa_nil))) (fun _ _ => rfl)) (pa_cons (pe_tupS (pa_cons (pe_op op_sub (pe_callR (ok__law_draw T) (hr.mono (by decide)) rfl T.g__law_draw T.k__law_draw (pa_cons (pv 0) (pa_cons pe_int pa_nil))) pe_int) (pa_cons (pe_op op_sub (pe_callR (ok__law_draw T) (hr.mono (by decide)) rfl T.g__law_draw T.k__law_draw (pa_cons (pv 0) (pa_cons pe_int pa_nil))) pe_int) pa_nil))) pa_nil)))))), ?_⟩
  try dsimp only [cxOf]
  obtain ⟨T0, l, t, n, rfl, hT, ht, ok, q⟩ := h
  have hsl := sizeLine_eq
  tm_at "sx"
  refine ⟨rfl, fun kl H1 n1 s1 e1 => ?_⟩
  refine ⟨kl, _, rfl, sl_of e1, by show 8 < sizeLine; decide, fun i acc H' => ∃ ks : List Str, acc = ks.map V.str ∧ (∀ k ∈ ks, k ∈ KINDS) ∧ ks.length ≤ i ∧ (1 ≤ i → ks ≠ []), fun _ _ => ⟨[], rfl, (fun _ h => by cases h), Nat.le_refl _, fun h => by omega⟩, fun D i v acc H' hi hx hD s2 e2 p => ?_, fun D acc H' hD s2 e2 p => ?_⟩
  · obtain ⟨ks, rfl, hk1, hk2, hk3⟩ := p
    obtain ⟨k, hk, rfl⟩ := map_get hx
    have hkm := List.mem_of_getElem? hk
    tm_at "sx"
    refine ⟨rfl, ?_⟩
    tm_at "sx"
    refine ⟨t, n, k, rfl, s2 _ _ (s1 _ _ ht), ok, hkm, fun H3 b s3 hb => ?_⟩
    refine ⟨b, rfl, ?_⟩
    cases b with
    | true =>
      refine w_tt ?_
      tm_at "sx"
      refine ⟨s3 _ _ e2, Same.trans s2 s3, fun H4 c s4 => ⟨ks ++ [k], by rw [List.map_append]; rfl, fun k' hk' => ?_, by rw [List.length_append]; show ks.length + 1 ≤ _; omega, fun _ => by simp⟩⟩
      rcases List.mem_append.mp hk' with z | z
      · exact hk1 k' z
      · obtain rfl : k' = k := by simpa using z
        exact hkm
    | false =>
      refine w_ff ⟨s3 _ _ e2, Same.trans s2 s3, ks, rfl, hk1, by omega, fun _ => ?_⟩
      have hk0 : k ≠ "none" := fun z => by have := hb z; cases this
      by_cases hi0 : i = 0
      · subst hi0
        exact absurd (Option.some.inj hk).symm hk0
      · exact hk3 (by omega)
  · obtain ⟨ks, rfl, hk1, hk2, hk3⟩ := p
    have hne := hk3 (by show 1 ≤ 8; decide)
    have hk2 : ks.length ≤ 8 := hk2
    have hpos : 1 ≤ ks.length := by
      cases ks with
      | nil => exact absurd rfl hne
      | cons a r => rw [List.length_cons]; omega
    have t2 := (hT.same s1).same s2
    have nD := (hT.same s1).ne hD
    tm_at "sx"
    refine ⟨.ref D, ks.length, rfl, .inl ⟨_, sl_of e2, by rw [List.length_map]⟩, ?_⟩
    tm_at "sx"
    refine ⟨T0, l, ks.length, rfl, t2, by omega, by omega, fun d H3 d0 d1 k3 t3 => ?_⟩
    have e3 := k3 _ _ nD.1 e2
    have hlt : d.toNat < ks.length := by omega
    refine w_ixL (sl_of e3) (atI_int d0 (by rw [List.getElem?_map, List.getElem?_eq_getElem hlt]; rfl)) ?_
    tm_at "sx"
    refine ⟨T0, l, 5, rfl, t3, by decide, by decide, fun d4 H4 _ _ k4 t4 => ?_⟩
    tm_at "sx"
    refine ⟨T0, l, 5, rfl, t4, by decide, by decide, fun d5 H5 _ _ k5 t5 => ?_⟩
    tm_at "sx"
    refine ⟨by show 2 ≤ sizeLine; decide, fun b H6 n6 s6 e6 => ?_⟩
    tm_at "sx"
    refine ⟨by show 2 ≤ sizeLine; decide, fun u H7 n7 s7 e7 => ?_⟩
    exact q u ks[d.toNat] (d4 - 2, d5 - 2) H7 ((Kp.of (Same.trans s1 s2)).trans (k3.trans (k4.trans (k5.trans (Kp.of (Same.trans s6 s7)))))) ((t5.same s6).same s7) ⟨b, e7, s7 _ _ e6⟩ (hk1 _ (List.getElem_mem hlt))
end
end Cp
set_option Elab.async false
set_option linter.all false
set_option maxRecDepth 100000
set_option maxHeartbeats 2000000
/-! F32: carpets made. -/
namespace Cp
open PySem PySem.Spec PyProof.Rows L2
local macro_rules | `(tactic| tm_at "fact") => `(tactic| first
  | assumption
  | (apply Same.up; · assumption
     tm_at "fact")
  | (apply Same.upS; · assumption
     tm_at "fact")
  | (apply Same.upL; · assumption
     tm_at "fact")
  | (apply sq_of; tm_at "fact")
  | (apply sl_of; tm_at "fact")
  | (apply Chg.up; · assumption
     · tm_at "fact"
     · exact fun z => nomatch z)
  | (apply Chg.upS; · assumption
     · tm_at "fact"
     · exact fun _ z => nomatch z
     · exact fun _ _ z => nomatch z))
local macro_rules | `(tactic| tm_at "same") => `(tactic| first
  | assumption
  | exact Same.refl _
  | (refine Same.trans ?_ ?_; rotate_left; · assumption
     tm_at "same"))
local macro_rules | `(tactic| tm_at "sx1") => `(tactic| with_reducible first
  | refine w_var rfl ?_
  | refine w_c ?_
  | refine w_op ?_
  | refine w_seq ?_
  | refine w_asg ?_
  | refine w_gname ?_
  | refine w_ret ?_
  | refine w_nil ?_
  | refine w_cons ?_
  | refine w_tup ?_
  | refine w_lst ?_
  | refine w_cb ?_
  | refine w_callR ?_
  | refine w_i0 ?_
  | refine w_gcons ?_
  | refine w_gnil ?_
  | refine w_test ?_
  | refine w_not ?_
  | refine w_ifs ?_
  | refine w_if ?_
  | refine w_expr ?_
  | refine w_eqI ?_
  | refine w_neI ?_
  | refine w_eqS ?_
  | refine w_neS ?_
  | refine w_or ?_
  | refine w_and ?_
  | refine w_par3 ?_
  | refine w_andV ?_
  | refine w_notV ?_
  | refine w_lcS ?_
  | refine w_forE ?_
  | refine w_m1 ?_
  | refine w_forL ?_
  | refine w_forR1 ?_
  | refine w_isN ?_
  | refine w_notN ?_
  | refine w_fld ?_
  | refine w_methR ?_
  | refine w_propR ?_
  | refine w_propA ?_
  | refine w_methA ?_
  | refine w_subA ?_
  | refine w_makeS ?_
  | refine w_fldS ?_
  | refine w_chain ?_
  | refine w_orV ?_
  | refine w_next ?_
  | refine w_tB ?_
  | refine w_lcL ?_
  | refine w_lcT ?_
  | refine w_lcR1 ?_
  | refine w_lcR1W ?_
  | refine w_turnW ?_
  | refine w_sl ?_
  | refine w_part ?_
  | refine w_nopart ?_
  | refine w_lcR2 ?_
  | refine w_turn ?_
  | refine w_yes ?_
  | refine w_par ?_
  | refine w_uI ?_
  | refine w_un ?_
  | refine w_one ?_)
local macro_rules | `(tactic| tm_at "at") => `(tactic| first | exact rfl | exact atI_nat rfl)
local macro_rules | `(tactic| tm_at "ix") => `(tactic| first
  | (with_reducible apply w_ixT; · tm_at "fact"
     · tm_at "at")
  | (with_reducible apply w_ixL; · tm_at "fact"
     · tm_at "at")
  | (with_reducible apply w_gtup; · tm_at "fact"
     · exact rfl))
local macro_rules | `(tactic| tm_at "sx") => `(tactic| repeat (first | tm_at "sx1" | tm_at "ix"))
section
variable {P : Program} {w : World} {K : PySem.W.Frag} {mg : Str → Option Value} {base : Heap}
def sp__law_made (K : PySem.W.Frag) : Sp := fun vs H Q _ => ∃ (T l t : Addr) (n : T3) (L : List Nat), vs = [.ref T, .ref t, .str (txt L)] ∧ TapeV H T l ∧ H t = some (tup3 n) ∧ Exact n L ∧ n.1 * n.2.2 ≤ 20 ∧ (∀ c ∈ L, c ∈ LET) ∧
  ∀ o C H', Kp T H H' → TapeV H' T l → CarC K C → CarV K H' o C n L → Q (.ref o) H'
theorem ok__law_made (T : Tx K mg) : FnR P w K mg base CX0 10 (He.ga K "_law_made") (sp__law_made K) := by
  refine fnr_of T.f__law_made sc__law_made (fun _ _ _ _ _ _ us hl => match us, hl with | [_, _, _], _ => rfl) (fun vs H Q E h => by obtain ⟨_, _, _, _, _, rfl, _⟩ := h; rfl) (fun cdv A outer s H vs Q E hr h => ?_)
  have nd := sc__law_made.nd
  refine ⟨_, (pss_cons (ps_if (pt_cmpR op_eq (pe_callR (ok__law_draw T) (hr.mono (by decide)) rfl T.g__law_draw T.k__law_draw (pa_cons (pv 0) (pa_cons pe_int pa_nil))) pe_int (nomark _)) (pss_one (ps_ret (pe_smeth (pe_glob (v := .ref _) rfl T.g_Carpet rfl) T.cr_Carpet T.s_Carpet_on (ok_Carpet_on T) (hr.mono (by decide)) (pa_cons (pe_makeS T.mk_Net (ok_Net___init__ T) (hr.mono (by decide)) rfl T.g_Net (pa_cons (pe_ix ix_tup (pv 1) pe_int (fun _ _ => rfl)) (pa_cons (pe_ix ix_tup (pv 1) pe_int (fun _ _ => rfl)) (pa_cons (pe_ix ix_tup (pv 1) pe_int (fun _ _ => rfl)) pa_nil)))) (pa_cons (pv 2) pa_nil))))) pss_nil)
    (pss_cons (ps_setLcR1 (i := 3) (own := [("_law_k", 4)]) (g := (gName 4)) rfl nd rfl rfl (sw_true rfl rfl rfl (by decide +kernel)) rfl T.b_range (pa_cons (pe_ix ix_tup (pv 1) pe_int (fun _ _ => rfl)) pa_nil) (blkOk_by (N := N_law_made) (sc := defScope s_law_made) (by decide +kernel)) (fun _ _ _ _ _ => (pg_name (i := 4) nd rfl (Or.inl rfl))) (fun _ _ _ _ _ => pts_nil) (fun _ _ _ _ _ => (pe_slice sl_str (pv 2) (po_some (pe_op op_mul (pe_ix (r := rIxT K) ix_tup (pv 1) pe_int (fun _ _ => rfl)) (pv 4))) (po_some (pe_op op_add (pe_op op_mul (pe_ix (r := rIxT K) ix_tup (pv 1) pe_int (fun _ _ => rfl)) (pv 4)) (pe_ix (r := rIxT K) ix_tup (pv 1) pe_int (fun _ _ => rfl)))))))
    (pss_one (ps_ret (pe_makeCK T (hr.mono (by decide)) (pa_cons (pv 3) pa_nil) (pe_op op_add (pe_ix ix_tup (pv 1) pe_int (fun _ _ => rfl)) (pe_op op_mul (pe_ix ix_tup (pv 1) pe_int (fun _ _ => rfl)) (pe_op op_sub (pe_callR (ok__law_draw T) (hr.mono (by decide)) rfl T.g__law_draw T.k__law_draw (pa_cons (pv 0) (pa_cons pe_int pa_nil))) pe_int)))))))), ?_⟩
  try dsimp only [cxOf]
  obtain ⟨T0, l, t, n, L, rfl, hT, ht, ex, hz, hL, q⟩ := h
  have hsl := sizeLine_eq
  have ok := ex.tok
  have a1 := ok.net.a1; have c1 := ok.net.c1; have b0 := ok.net.b0; have ba := ok.net.ba
  obtain ⟨a2, c2⟩ := nv_small ok.net.nv hz
  tm_at "sx"
  refine ⟨T0, l, 2, rfl, hT, by decide, by decide, fun d1 H1 d10 d11 k1 t1 => ?_⟩
  have ht1 : H1 t = some (tup3 n) := k1.up hT ht (fun _ z => nomatch z)
  tm_at "sx"
  refine ⟨_, rfl, ?_⟩
  by_cases h0 : d1 = 0
  · rw [decide_eq_true h0]
    refine w_tt ?_
    tm_at "sx"
    refine ⟨rfl, ?_⟩
    tm_at "sx"
    intro x dx H2 h1 h2 hne s2 e2
    refine ⟨x, dx, n, rfl, e2, ok.net.nv, fun H3 k3 n3 => ⟨rfl, ?_⟩⟩
    have s3 : Same H1 H3 := made_same (H := H) h1 s2 k3
    tm_at "sx"
    refine ⟨x, n, L, rfl, n3, ok, by omega, hL, fun o m H4 s4 cv hk => ?_⟩
    have mok : NOk m := by obtain ⟨_, _, _, _, h⟩ := cv; exact h.net
    obtain ⟨rfl, e⟩ := exact_same ex mok hk
    rw [e] at cv
    exact q o _ H4 (k1.trans (Kp.of (Same.trans s3 s4))) (t1.same (Same.trans s3 s4)) (.inr rfl) cv
  · rw [decide_eq_false h0]
    refine w_ff ?_
    tm_at "sx"
    have ea : ((n.1.toNat : Nat) : Int) = n.1 := by omega
    have ec : ((n.2.2.toNat : Nat) : Int) = n.2.2 := by omega
    have hlen : L.length = n.1.toNat * n.2.2.toNat := by
      have h1 := ok.len
      have h2 := ok.net.nat
      rw [Nat.mul_comm]
      omega
    refine ⟨n.2.2.toNat, by rw [ec], by omega, fun i acc H' => acc = (rowsL L n.1.toNat i).map fun r => V.str (txt r), fun _ _ => rfl, fun D i v acc H' hi hx hD s2 e2 p => ?_, fun D acc H' hD s2 e2 p => ?_⟩
    · subst p hx
      tm_at "sx"
      refine ⟨rfl, ?_⟩
      tm_at "sx"
      refine w_iC (.inl ⟨by omega, by omega⟩) ?_
      tm_at "sx"
      refine ⟨_, rfl, ?_⟩
      tm_at "sx"
      refine w_iC (.inl ⟨by omega, by omega⟩) ?_
      tm_at "sx"
      refine ⟨_, rfl, ?_⟩
      have e1 : n.1 * (i : Int) = ((n.1.toNat * i : Nat) : Int) := by rw [Int.natCast_mul, ea]
      have e3 : n.1 * (i : Int) + n.1 = ((n.1.toNat * i + n.1.toNat : Nat) : Int) := by rw [Int.natCast_add, Int.natCast_mul, ea]
      refine ⟨txt L, rfl, by show L.toArray.size ≤ sizeLine; rw [List.size_toArray]; have := ok.small; omega, e2, s2, fun H5 c s5 => ?_⟩
      rw [e1, ← e1, e3, e1, cut_row L hlen hi]
      unfold rowsL
      rw [List.range_succ, List.map_append, List.map_append]; rfl
    · subst p
      have e2 : H' D = some (.lst ((rowsL L n.1.toNat n.2.2.toNat).map fun r => V.str (txt r))) := e2
      have t2 := t1.same s2
      have nD := t1.ne hD
      tm_at "sx"
      refine w_makeCK ?_
      tm_at "sx"
      have ht2 := s2 _ _ ht1
      tm_at "sx"
      refine ⟨T0, l, 5, rfl, t2, by decide, by decide, fun d5 H5 d50 d51 k5 t5 => ?_⟩
      tm_at "sx"
      refine w_iC (.inl ⟨by omega, by omega⟩) ?_
      tm_at "sx"
      have e5 := k5 _ _ nD.1 e2
      refine ⟨rfl, fun x dx H6 h1 h2 hne s6 e6 => ?_⟩
      have hmul : -(80 : Int) ≤ n.1 * (d5 - 2) ∧ n.1 * (d5 - 2) ≤ 80 := by
        constructor
        · have := Int.mul_le_mul_of_nonneg_left (show -2 ≤ d5 - 2 by omega) (show 0 ≤ n.1 by omega)
          omega
        · have := Int.mul_le_mul_of_nonneg_left (show d5 - 2 ≤ 4 by omega) (show 0 ≤ n.1 by omega)
          omega
      have rl : (rowsL L n.1.toNat n.2.2.toNat).length = n.2.2.toNat := by unfold rowsL; rw [List.length_map, List.length_range]
      have rok : RowsOk (rowsL L n.1.toNat n.2.2.toNat) n.1.toNat := by
        refine ⟨by omega, by omega, by omega, by omega, ?_, fun r hr => ?_⟩
        · rw [rl, Nat.mul_comm, ← hlen]; have := ok.len; omega
        · unfold rowsL at hr
          obtain ⟨k, hk, rfl⟩ := List.mem_map.mp hr
          rw [List.mem_range] at hk
          have : n.1.toNat * k + n.1.toNat ≤ L.length := by
            rw [hlen]
            have := Nat.mul_le_mul_left n.1.toNat (show k + 1 ≤ n.2.2.toNat by omega)
            rw [Nat.mul_succ] at this
            exact this
          refine ⟨by rw [List.length_take, List.length_drop]; omega, fun c hc => hL c (List.mem_of_mem_drop (List.mem_of_mem_take hc))⟩
      have hnet : netR (rowsL L n.1.toNat n.2.2.toNat) n.1.toNat (n.2.1 + n.1 * (d5 - 2)) = n := by
        unfold netR
        rw [rl, ea, ec]
        refine Prod.ext rfl (Prod.ext ?_ rfl)
        show (n.2.1 + n.1 * (d5 - 2)) % n.1 = n.2.1
        rw [Int.add_mul_emod_self_left]
        exact Int.emod_eq_of_lt b0 ba
      have hflat : (rowsL L n.1.toNat n.2.2.toNat).flatten = L := by
        rw [rows_flat, ← hlen, List.take_length]
      refine ⟨x, _, dx, D, rowsL L n.1.toNat n.2.2.toNat, n.1.toNat, n.2.1 + n.1 * (d5 - 2), rfl, .inl rfl, e6, s6 _ _ e5, rok, by omega, by omega, fun m H7 k7 cv hk => ⟨rfl, ?_⟩⟩
      rw [hnet, hflat] at hk cv
      have mok : NOk m := by obtain ⟨_, _, _, _, h⟩ := cv; exact h.net
      obtain ⟨rfl, e⟩ := exact_same ex mok hk
      rw [e] at cv
      have s7 : Same H5 H7 := made_same (H := H) h1 s6 k7
      exact q x _ H7 (k1.trans ((Kp.of s2).trans (k5.trans (Kp.of s7)))) (t5.same s7) (.inl rfl) cv
end
end Cp
set_option Elab.async false
set_option linter.all false
set_option maxRecDepth 100000
set_option maxHeartbeats 2000000
/-! F33: a text tied by motions. -/
namespace Cp
open PySem PySem.Spec PyProof.Rows L2
local macro_rules | `(tactic| tm_at "fact") => `(tactic| first
  | assumption
  | (apply Same.up; · assumption
     tm_at "fact")
  | (apply Same.upS; · assumption
     tm_at "fact")
  | (apply Same.upL; · assumption
     tm_at "fact")
  | (apply sq_of; tm_at "fact")
  | (apply sl_of; tm_at "fact")
  | (apply Chg.up; · assumption
     · tm_at "fact"
     · exact fun z => nomatch z)
  | (apply Chg.upS; · assumption
     · tm_at "fact"
     · exact fun _ z => nomatch z
     · exact fun _ _ z => nomatch z))
local macro_rules | `(tactic| tm_at "same") => `(tactic| first
  | assumption
  | exact Same.refl _
  | (refine Same.trans ?_ ?_; rotate_left; · assumption
     tm_at "same"))
local macro_rules | `(tactic| tm_at "sx1") => `(tactic| with_reducible first
  | refine w_var rfl ?_
  | refine w_c ?_
  | refine w_op ?_
  | refine w_seq ?_
  | refine w_asg ?_
  | refine w_gname ?_
  | refine w_ret ?_
  | refine w_nil ?_
  | refine w_cons ?_
  | refine w_tup ?_
  | refine w_lst ?_
  | refine w_cb ?_
  | refine w_callR ?_
  | refine w_i0 ?_
  | refine w_gcons ?_
  | refine w_gnil ?_
  | refine w_test ?_
  | refine w_not ?_
  | refine w_ifs ?_
  | refine w_if ?_
  | refine w_expr ?_
  | refine w_eqI ?_
  | refine w_neI ?_
  | refine w_eqS ?_
  | refine w_neS ?_
  | refine w_or ?_
  | refine w_and ?_
  | refine w_par3 ?_
  | refine w_andV ?_
  | refine w_notV ?_
  | refine w_lcS ?_
  | refine w_forE ?_
  | refine w_m1 ?_
  | refine w_forL ?_
  | refine w_forR1 ?_
  | refine w_isN ?_
  | refine w_notN ?_
  | refine w_fld ?_
  | refine w_methR ?_
  | refine w_propR ?_
  | refine w_propA ?_
  | refine w_methA ?_
  | refine w_subA ?_
  | refine w_makeS ?_
  | refine w_fldS ?_
  | refine w_chain ?_
  | refine w_orV ?_
  | refine w_next ?_
  | refine w_tB ?_
  | refine w_lcL ?_
  | refine w_lcT ?_
  | refine w_lcR1 ?_
  | refine w_lcR1W ?_
  | refine w_turnW ?_
  | refine w_sl ?_
  | refine w_part ?_
  | refine w_nopart ?_
  | refine w_lcR2 ?_
  | refine w_turn ?_
  | refine w_yes ?_
  | refine w_par ?_
  | refine w_uI ?_
  | refine w_un ?_
  | refine w_one ?_)
local macro_rules | `(tactic| tm_at "at") => `(tactic| first | exact rfl | exact atI_nat rfl)
local macro_rules | `(tactic| tm_at "ix") => `(tactic| first
  | (with_reducible apply w_ixT; · tm_at "fact"
     · tm_at "at")
  | (with_reducible apply w_ixL; · tm_at "fact"
     · tm_at "at")
  | (with_reducible apply w_gtup; · tm_at "fact"
     · exact rfl))
local macro_rules | `(tactic| tm_at "sx") => `(tactic| repeat (first | tm_at "sx1" | tm_at "ix"))
def Mvs (H : Hp) (ms : List V) : Prop := ∀ v ∈ ms, ∃ m k s, v = V.ref m ∧ MvV H m k s ∧ k ∈ KINDS
theorem Mvs.same {H H' : Hp} {ms : List V} (s : Same H H') (h : Mvs H ms) : Mvs H' ms := fun v hv => let ⟨m, k, x, h1, h2, h3⟩ := h v hv; ⟨m, k, x, h1, h2.same s, h3⟩
theorem val_mem {kvs : List (List Key × V)} {k : List Key} {v : V} (h : valV kvs k = some v) : ∃ kv ∈ kvs, kv.2 = v := by
  unfold valV at h
  obtain ⟨kv, h1, h2⟩ := Option.map_eq_some_iff.mp h
  exact ⟨kv, List.mem_of_find?_eq_some h1, h2⟩
theorem cell_idx {n : T3} {i m : Nat} {p q : Pt} (h : (cellL n)[i]? = some p) (hm : m < i) (h2 : (cellL n)[m]? = some q) : q ≠ p := fun z => by
  subst z
  have nd := cell_nodup n
  obtain ⟨hi, e1⟩ := List.getElem?_eq_some_iff.mp h
  obtain ⟨hm', e2⟩ := List.getElem?_eq_some_iff.mp h2
  have := (List.getElem_inj nd).mp (e1.trans e2.symm)
  omega
theorem measA {r k a : Nat} : r * (k + 1) + (a + k) < (r + 1) * (k + 1) + (a + 1) := by rw [Nat.succ_mul]; omega
section
variable {P : Program} {w : World} {K : PySem.W.Frag} {mg : Str → Option Value} {base : Heap}
def sp__law_tied (K : PySem.W.Frag) : Sp := fun vs H Q _ => ∃ (t ml : Addr) (n : T3) (L : List Nat) (ms : List V), vs = [.ref t, .str (txt L), .ref ml] ∧ H t = some (tup3 n) ∧ TOk n L ∧ H ml = some (.lst ms) ∧ Mvs H ms ∧ ms.length ≤ 10 ∧
  ∀ X H', Same H H' → TOk n X → (∀ c ∈ X, c ∈ L) → Q (.str (txt X)) H'
theorem ok__law_tied (T : Tx K mg) : FnR P w K mg base CX0 3 (He.ga K "_law_tied") (sp__law_tied K) := by
  refine fnr_of T.f__law_tied sc__law_tied (fun _ _ _ _ _ _ us hl => match us, hl with | [_, _, _], _ => rfl) (fun vs H Q E h => by obtain ⟨_, _, _, _, _, rfl, _⟩ := h; rfl) (fun cdv A outer s H vs Q E hr h => ?_)
  have nd := sc__law_tied.nd
  refine ⟨_, (pss_cons (ps_set (i := 3) nd rfl (Or.inl rfl) (pe_callR (ok__law_spots T) (hr.mono (by decide)) rfl T.g__law_spots T.k__law_spots (pa_cons (pv 0) pa_nil)))
    (pss_cons (ps_set (i := 4) nd rfl (Or.inr rfl) pe_dnewS)
    (pss_cons (ps_for PassesOwn.never rfl (pi_list (pv 3)) (pg_name (i := 5) nd rfl (Or.inl rfl)) (pss_cons (ps_set (i := 6) nd rfl (Or.inl rfl) (pe_lstS (pa_cons (pv 5) pa_nil)))
    (pss_one (ps_while PassesOwn.never (pt_cmpR (op_neD (hu64 hr)) (pv 6) (pe_lstS pa_nil) (nomark _)) (pss_cons (ps_set (i := 7) nd rfl (Or.inr rfl) (pe_bm0 PySem.F.plainAttrs_list PySem.F.slot_list_pop PySem.F.type_list_pop mt_pop (pv 6)))
    (pss_one (ps_if (pt_cmp (pc_dnotin (hu_of hr) (pv 7) (pv 4))) (pss_cons (ps_dputS (hu_of hr) (pv 4) (pv 7) (pe_ix ix_str (pv 1) (pe_bm PySem.F.plainAttrs_list PySem.F.slot_list_index PySem.F.type_list_index (mt_indexD (hu65 hr)) (pv 3) (pa_cons (pv 5) pa_nil)) (fun _ _ => rfl)) rfl)
    (pss_one (ps_set (i := 6) nd rfl (Or.inl rfl) (pe_op op_cat (pv 6) (pe_lcL (own := [("_law_move_here", 8)]) (g := (gName 8)) rfl nd (pv 2) (blkOk_by (N := N_law_tied) (sc := defScope s_law_tied) (by decide +kernel)) (fun _ _ _ _ _ => (pg_name (i := 8) nd rfl (Or.inl rfl))) (fun _ _ _ _ _ => pts_nil) (fun _ _ _ _ _ => (pe_callR (ok__law_low T) (hr.mono (by decide)) rfl T.g__law_low T.k__law_low (pa_cons (pv 0) (pa_cons (pe_callR (ok__law_carried T) (hr.mono (by decide)) rfl T.g__law_carried T.k__law_carried (pa_cons (pv 8) (pa_cons (pv 7) pa_nil))) pa_nil))))))))) pss_nil)))))))
    (pss_one (ps_ret (pe_join pe_str (pe_lcL (own := [("_law_spot", 5)]) (g := (gName 5)) rfl nd (pv 3) (blkOk_by (N := N_law_tied) (sc := defScope s_law_tied) (by decide +kernel)) (fun _ _ _ _ _ => (pg_name (i := 5) nd rfl (Or.inl rfl))) (fun _ _ _ _ _ => pts_nil) (fun _ _ _ _ _ => (pe_dget (hu_of hr) (pv 4) (pv 5) (fun _ _ => rfl)))))))))), ?_⟩
  try dsimp only [cxOf]
  obtain ⟨t, ml, n, L, ms, rfl, ht, ok, hml, hms, hm10, q⟩ := h
  have hsl := sizeLine_eq
  have hnat := ok.net.nat; have hsz := ok.net.sz
  have hcl : (cellL n).length ≤ 4000 := by rw [cellL_len]; omega
  have hLc : L.length = (cellL n).length := by have := ok.len; rw [cellL_len]; omega
  tm_at "sx"
  refine ⟨t, n, rfl, ht, ok.net, fun sl us H1 nsl s1 e1 p1 => ?_⟩
  tm_at "sx"
  intro fd H2 nfd s2 e2
  tm_at "sx"
  have s02 := Same.trans s1 s2
  have nfdH : H fd = none := by
    cases z : H fd with
    | none => rfl
    | some u => rw [s1 _ _ z] at nfd; cases nfd
  have hul : us.length = (cellL n).length := p1.len
  refine ⟨sl, rfl, ⟨us, sl_of (s2 _ _ e1)⟩, ?_⟩
  refine for_list (xs := us) (fun i σ H' => ∃ (kvs : List (List Key × V)) (Ks : List Pt) (o5 o6 o7 o8 : Option V), σ = [some (.ref t), some (.str (txt L)), some (.ref ml), some (.ref sl), some (.ref fd), o5, o6, o7, o8] ∧ Same H H' ∧ H' sl = some (.lst us) ∧ Ps H' us (cellL n) ∧ H' fd = some (.dT kvs) ∧ KS n kvs Ks ∧ (∀ kv ∈ kvs, ∃ c ∈ L, kv.2 = V.str (one1 c)) ∧ ∀ p ∈ (cellL n).take i, p ∈ Ks)
    ⟨[], [], none, none, none, none, rfl, s02, s2 _ _ e1, p1.same s2, e2, ⟨rfl, by simp, (fun _ h => by cases h)⟩, (fun _ h => by cases h), fun p hp => (by simp at hp)⟩ (fun i σ H' _ hI => ?_) (fun i x σ H' hx hI => ?_) (fun σ H' hI => ?_)
  · obtain ⟨_, _, _, _, _, _, _, _, h, _⟩ := hI
    exact sl_of h
  · obtain ⟨kvs, Ks, o5, o6, o7, o8, rfl, sI, hsl', pI, hfd, hks, hval, hdone⟩ := hI
    obtain ⟨bx, p, rfl, hbx, hpi⟩ := pI.at hx
    have hpm := List.mem_of_getElem? hpi
    tm_at "sx"
    refine ⟨by show 1 ≤ sizeLine; decide, fun la H3 n3 s3 e3 => ?_⟩
    tm_at "sx"
    have nlaH : H la = none := by
      cases z : H la with
      | none => rfl
      | some u => rw [sI _ _ z] at n3; cases n3
    have nls : la ≠ sl := fun z => by subst z; rw [hsl'] at n3; cases n3
    have hp1 : ∀ q ∈ [p], q ∈ cellL n := fun q hq => by
      obtain rfl : q = p := by simpa using hq
      exact hpm
    refine ⟨fun m σ H' => ∃ (la : Addr) (ls : List V) (ps : List Pt) (kvs : List (List Key × V)) (Ks : List Pt) (o7 o8 : Option V), σ = [some (.ref t), some (.str (txt L)), some (.ref ml), some (.ref sl), some (.ref fd), some (.ref bx), some (.ref la), o7, o8] ∧ m = ((cellL n).length - Ks.length) * (ms.length + 1) + ls.length ∧ m ≤ (cellL n).length * (ms.length + 1) + 1 ∧ H la = none ∧ la ≠ sl ∧ Same H H' ∧ H' sl = some (.lst us) ∧ Ps H' us (cellL n) ∧ H' bx = some (tup2 p) ∧ H' la = some (.lst ls) ∧ Ps H' ls ps ∧ (∀ q ∈ ps, q ∈ cellL n) ∧ H' fd = some (.dT kvs) ∧ KS n kvs Ks ∧ (∀ kv ∈ kvs, ∃ c ∈ L, kv.2 = V.str (one1 c)) ∧ (∀ p ∈ (cellL n).take i, p ∈ Ks) ∧ (p ∈ Ks ∨ p ∈ ps),
      ⟨_, la, _, [p], kvs, Ks, _, _, rfl, rfl, ?_, nlaH, nls, Same.trans sI s3, s3 _ _ hsl', pI.same s3, s3 _ _ hbx, e3, .cons ⟨bx, rfl, s3 _ _ hbx⟩ .nil, hp1, s3 _ _ hfd, hks, hval, hdone, .inr (by simp)⟩, fun m σ H4 hW => ?_⟩
    · have := Nat.mul_le_mul_right (ms.length + 1) (Nat.sub_le (cellL n).length Ks.length)
      show _ + 1 ≤ _
      omega
    clear nlaH nls e3 n3 s3 hks hval hdone hfd kvs Ks pI hbx hsl' sI
    obtain ⟨la, ls, ps, kvs, Ks, o7, o8, rfl, rfl, hmb, nla, nls, sI, hsl', pI, hbx, hla, hps, hpc, hfd, hks, hval, hdone, hor⟩ := hW
    tm_at "sx"
    refine ⟨Nat.zero_le _, fun em H5 ne s5 e5 => ?_⟩
    refine w_nePs (sl_of (s5 _ _ hla)) (hps.same s5) (sl_of e5) ?_
    refine ⟨_, rfl, ?_⟩
    have sI5 := Same.trans sI s5
    rcases List.eq_nil_or_concat ps with rfl | ⟨ps, c, rfl⟩
    · rw [decide_eq_true rfl]
      refine w_ff ?_
      have hpK : p ∈ Ks := hor.elim id fun z => by cases z
      refine ⟨kvs, Ks, _, _, _, _, rfl, sI5, s5 _ _ hsl', pI.same s5, s5 _ _ hfd, hks, hval, fun r hr => ?_⟩
      rw [List.take_add_one, hpi] at hr
      rcases List.mem_append.mp hr with z | z
      · exact hdone r z
      · obtain rfl : r = p := by simpa using z
        exact hpK
    · rw [List.concat_eq_append] at *
      rw [decide_eq_false (by simp)]
      obtain ⟨ls, bc, rfl, hps', hbc⟩ := hps.last
      refine w_tt ⟨fun σ H' => ∃ (la' : Addr) (ls' : List V) (ps : List Pt) (kvs : List (List Key × V)) (Ks' : List Pt) (o7 o8 : Option V), σ = [some (.ref t), some (.str (txt L)), some (.ref ml), some (.ref sl), some (.ref fd), some (.ref bx), some (.ref la'), o7, o8] ∧ ((cellL n).length - Ks'.length) * (ms.length + 1) + ls'.length < ((cellL n).length - Ks.length) * (ms.length + 1) + (ls ++ [V.ref bc]).length ∧ H la' = none ∧ la' ≠ sl ∧ Same H H' ∧ H' sl = some (.lst us) ∧ Ps H' us (cellL n) ∧ H' bx = some (tup2 p) ∧ H' la' = some (.lst ls') ∧ Ps H' ls' ps ∧ (∀ q ∈ ps, q ∈ cellL n) ∧ H' fd = some (.dT kvs) ∧ KS n kvs Ks' ∧ (∀ kv ∈ kvs, ∃ c ∈ L, kv.2 = V.str (one1 c)) ∧ (∀ p ∈ (cellL n).take i, p ∈ Ks') ∧ (p ∈ Ks' ∨ p ∈ ps),
        fun σ H' ⟨la', ls', ps, kvs, Ks', o7, o8, e, hlt, z⟩ => ⟨_, hlt, la', ls', ps, kvs, Ks', o7, o8, e, rfl, by omega, z⟩, ?_⟩
      tm_at "sx"
      have hla5 := s5 _ _ hla
      refine ⟨_, rfl, .inl ⟨rfl, _, sl_of hla5⟩, pop_of hla5 fun H6 k6 e6 => ?_⟩
      have sI6 : Same H H6 := chg_same nla sI5 k6
      have hsl6 := k6.2 _ _ (Ne.symm nls) (s5 _ _ hsl')
      have hbc6 := k6.up (s5 _ _ hbc) (fun z => nomatch z)
      have hbx6 := k6.up (s5 _ _ hbx) (fun z => nomatch z)
      have hfd6 := k6.up (s5 _ _ hfd) (fun z => nomatch z)
      have pI6 := (pI.same s5).chg k6 (fun _ z => nomatch z)
      have ps6 := (hps'.same s5).chg k6 (fun _ z => nomatch z)
      have hcc : c ∈ cellL n := hpc c (by simp)
      tm_at "sx"
      refine ⟨_, rfl, _, rfl, fd, _, rfl, DGet.t (k := kP c) hfd6 hbc6, ?_⟩
      rw [hks.val]
      refine ⟨_, rfl, ?_⟩
      by_cases hin : c ∈ Ks
      · rw [decide_eq_true hin]
        refine w_ff ?_
        refine ⟨la, ls, ps, kvs, Ks, _, _, rfl, by rw [List.length_append]; exact Nat.add_lt_add_left (by show ls.length < ls.length + 1; omega) _, nla, nls, sI6, hsl6, pI6, hbx6, e6, ps6, fun q hq => hpc q (List.mem_append_left _ hq), hfd6, hks, hval, hdone, ?_⟩
        rcases hor with z | z
        · exact .inl z
        · rcases List.mem_append.mp z with y | y
          · exact .inr y
          · obtain rfl : p = c := by simpa using y
            exact .inl hin
      · rw [decide_eq_false hin]
        refine w_tt ?_
        tm_at "sx"
        refine ⟨_, rfl, _, rfl, .inl ⟨rfl, _, sl_of hsl6⟩, ?_⟩
        tm_at "sx"
        have hli : i < L.length := by rw [hLc]; exact (List.getElem?_eq_some_iff.mp hpi).1
        refine ⟨sl, .ref bx, plD p, (cellL n).map plD, i, plD p, rfl, rfl, .lst (sl_of hsl6) pI6.dps, pl_dp (sq_of hbx6), plDs_shaped _, plD_shaped _, by rw [List.getElem?_map, hpi]; rfl, by rw [plD_eqv]; exact decide_eq_true rfl, fun m z' hm hz' => ?_, ?_⟩
        · rw [List.getElem?_map] at hz'
          obtain ⟨r, hr, rfl⟩ := Option.map_eq_some_iff.mp hz'
          rw [plD_eqv]
          exact decide_eq_false (cell_idx hpi hm hr)
        refine ⟨_, _, L[i], rfl, rfl, by show L.toArray.size ≤ sizeLine; rw [List.size_toArray]; omega, atI_nat (show L[i]? = _ from List.getElem?_eq_getElem hli), ?_⟩
        have hkl := hks.len
        refine ⟨_, rfl, _, rfl, fd, bc, kvs, kP c, rfl, rfl, hfd6, hbc6, by omega, fun H7 k7 e7 => ?_⟩
        have hvn : valV kvs (kP c) = none := by
          have := hks.val c
          rw [decide_eq_false hin] at this
          simpa using this
        have hks7 := hks.put hcc (.str (one1 L[i]))
        have hadd : addK Ks c = Ks ++ [c] := by unfold addK; rw [if_neg hin]
        rw [hadd] at hks7
        rw [putK_none hvn] at e7 hks7
        have hlen7 : Ks.length + 1 ≤ (cellL n).length := by
          have := nodup_sub_len (Ks ++ [c]) (cellL n) hks7.2.1 hks7.2.2
          rw [List.length_append] at this
          exact this
        have sI7 : Same H H7 := chg_same nfdH sI6 k7
        have hsl7 := k7.up hsl6 (fun z => nomatch z)
        have hbc7 := k7.up hbc6 (fun z => nomatch z)
        have hbx7 := k7.up hbx6 (fun z => nomatch z)
        have hla7 := k7.up e6 (fun z => nomatch z)
        have pI7 := pI6.chg k7 (fun _ z => nomatch z)
        have ps7 := ps6.chg k7 (fun _ z => nomatch z)
        have hval7 : ∀ kv ∈ kvs ++ [(kP c, V.str (one1 L[i]))], ∃ c ∈ L, kv.2 = V.str (one1 c) := fun kv hkv => by
          rcases List.mem_append.mp hkv with z | z
          · exact hval kv z
          · obtain rfl : kv = (kP c, V.str (one1 L[i])) := by simpa using z
            exact ⟨_, List.getElem_mem hli, rfl⟩
        tm_at "sx"
        refine ⟨ml, ms, rfl, sl_of (sI7 _ _ hml), by omega, fun j acc H' => ∃ qs, Ps H' acc qs ∧ qs.length = j ∧ ∀ q ∈ qs, q ∈ cellL n, fun _ _ => ⟨[], .nil, rfl, fun _ h => by cases h⟩, fun D j v acc H8 hj hv hD s8 e8 pp => ?_, fun D acc H8 hD s8 e8 pp => ?_⟩
        · obtain ⟨qs, q1, q2, q3⟩ := pp
          obtain ⟨mv, k, sh, rfl, hmv, hk⟩ := hms v (List.mem_of_getElem? hv)
          have sI8 := Same.trans sI7 s8
          tm_at "sx"
          refine ⟨rfl, ?_⟩
          tm_at "sx"
          refine ⟨mv, bc, k, sh, c, rfl, hmv.same sI8, hk, s8 _ _ hbc7, fun u H9 r s9 e9 _ => ?_⟩
          tm_at "sx"
          refine ⟨t, u, n, r, rfl, s9 _ _ (sI8 _ _ ht), ok.net.nw r, e9, fun b H10 s10 e10 => ?_⟩
          have s810 : Same H8 H10 := Same.trans s9 s10
          refine ⟨s810 _ _ e8, Same.trans s8 s810, fun H11 k11 s11 => ⟨qs ++ [low n r], ((q1.same s810).chg k11 (fun _ z => nomatch z)).app (Ps.one (k11.up e10 (fun z => nomatch z))), by rw [List.length_append, q2]; rfl, fun q hq => ?_⟩⟩
          rcases List.mem_append.mp hq with z | z
          · exact q3 q z
          · obtain rfl : q = low n r := by simpa using z
            exact low_cell ok.net r
        · obtain ⟨qs, q1, q2, q3⟩ := pp
          have hal : acc.length = ms.length := by rw [q1.len, q2]
          have hlsb : ls.length ≤ 100000 := by
            have h1 : ((cellL n).length) * (ms.length + 1) ≤ 4000 * 11 := Nat.mul_le_mul hcl (by omega)
            rw [List.length_append] at hmb
            omega
          refine ⟨la, D, ls, acc, rfl, rfl, s8 _ _ hla7, e8, by omega, fun pn hpn => ?_⟩
          have s9 := same_upd (o := .lst (ls ++ acc)) hpn
          have e9 : upd H8 pn (.lst (ls ++ acc)) pn = some (.lst (ls ++ acc)) := upd_same
          generalize upd H8 pn (.lst (ls ++ acc)) = H9 at *
          have s79 : Same H7 H9 := Same.trans s8 s9
          have nfr : ∀ {b : Addr} {u : HO}, H7 b = some u → pn ≠ b := fun {b u} e z => by subst z; rw [s8 _ _ e] at hpn; cases hpn
          have npH : H pn = none := by
            cases z : H pn with
            | none => rfl
            | some u => exact absurd rfl (nfr (sI7 _ _ z))
          have hm1 : ((cellL n).length - (Ks ++ [c]).length) * (ms.length + 1) + (ls ++ acc).length < ((cellL n).length - Ks.length) * (ms.length + 1) + (ls ++ [V.ref bc]).length := by
            rw [List.length_append, List.length_append, List.length_append, hal]
            have e : (cellL n).length - Ks.length = ((cellL n).length - (Ks.length + 1)) + 1 := by omega
            rw [e]
            exact measA
          refine ⟨pn, ls ++ acc, ps ++ qs, _, Ks ++ [c], _, _, rfl, hm1, npH, nfr hsl7, Same.trans sI7 s79, s79 _ _ hsl7, pI7.same s79, s79 _ _ hbx7, e9, (ps7.same s79).app (q1.same s9), fun q hq => ?_, s79 _ _ e7, hks7, hval7, fun r hr => List.mem_append_left _ (hdone r hr), ?_⟩
          · rcases List.mem_append.mp hq with z | z
            · exact hpc q (List.mem_append_left _ z)
            · exact q3 q z
          · rcases hor with z | z
            · exact .inl (List.mem_append_left _ z)
            · rcases List.mem_append.mp z with y | y
              · exact .inr (List.mem_append_left _ y)
              · exact .inl (List.mem_append_right _ y)
  · obtain ⟨kvs, Ks, o5, o6, o7, o8, rfl, sI, hsl', pI, hfd, hks, hval, hdone⟩ := hI
    rw [hul, List.take_length] at hdone
    tm_at "sx"
    refine ⟨⟨_, rfl⟩, ?_⟩
    tm_at "sx"
    refine ⟨sl, us, rfl, sl_of hsl', by omega, fun j acc H' => ∃ cs : List Nat, acc = cs.map (fun c => V.str (one1 c)) ∧ cs.length = j ∧ ∀ c ∈ cs, c ∈ L, fun _ _ => ⟨[], rfl, rfl, fun _ h => by cases h⟩, fun D j v acc H8 hj hv hD s8 e8 pp => ?_, fun D acc H8 hD s8 e8 pp => ?_⟩
    · obtain ⟨cs, rfl, hcs, hc⟩ := pp
      obtain ⟨bx, p, rfl, hbx, hpi⟩ := (pI.same s8).at hv
      have hpK := hdone p (List.mem_of_getElem? hpi)
      obtain ⟨v, hv'⟩ : ∃ v, valV kvs (kP p) = some v := by
        have := hks.val p
        rw [decide_eq_true hpK] at this
        exact Option.isSome_iff_exists.mp this
      obtain ⟨kv, hkv, e⟩ := val_mem hv'
      obtain ⟨c, hcL, e2⟩ := hval kv hkv
      rw [e] at e2
      subst e2
      tm_at "sx"
      refine ⟨rfl, ?_⟩
      tm_at "sx"
      refine ⟨_, rfl, _, rfl, fd, _, rfl, by rw [← hv']; exact DGet.t (k := kP p) (s8 _ _ hfd) hbx, ?_⟩
      refine ⟨e8, s8, fun H9 k9 s9 => ⟨cs ++ [c], by rw [List.map_append]; rfl, by rw [List.length_append, hcs]; rfl, fun c' hc' => ?_⟩⟩
      rcases List.mem_append.mp hc' with z | z
      · exact hc c' z
      · obtain rfl : c' = c := by simpa using z
        exact hcL
    · obtain ⟨cs, rfl, hcs, hc⟩ := pp
      have hcs : cs.length = us.length := hcs
      refine ⟨_, D, cs.map one1, rfl, rfl, .inl (join_sl (sl_of e8)), join_len _ (by omega), ?_⟩
      rw [join0]
      exact q cs H8 (Same.trans sI s8) ⟨ok.net, by rw [hcs, hul, cellL_len, hnat]⟩ hc
end
end Cp
set_option Elab.async false
set_option linter.all false
set_option maxRecDepth 100000
set_option maxHeartbeats 4000000
/-! F34: carpets drawn. -/
namespace Cp
open PySem PySem.Spec PyProof.Rows L2
local macro_rules | `(tactic| tm_at "fact") => `(tactic| first
  | assumption
  | (apply Same.up; · assumption
     tm_at "fact")
  | (apply Same.upS; · assumption
     tm_at "fact")
  | (apply Same.upL; · assumption
     tm_at "fact")
  | (apply sq_of; tm_at "fact")
  | (apply sl_of; tm_at "fact")
  | (apply Chg.up; · assumption
     · tm_at "fact"
     · exact fun z => nomatch z)
  | (apply Chg.upS; · assumption
     · tm_at "fact"
     · exact fun _ z => nomatch z
     · exact fun _ _ z => nomatch z))
local macro_rules | `(tactic| tm_at "same") => `(tactic| first
  | assumption
  | exact Same.refl _
  | (refine Same.trans ?_ ?_; rotate_left; · assumption
     tm_at "same"))
local macro_rules | `(tactic| tm_at "sx1") => `(tactic| with_reducible first
  | refine w_var rfl ?_
  | refine w_c ?_
  | refine w_op ?_
  | refine w_seq ?_
  | refine w_asg ?_
  | refine w_gname ?_
  | refine w_ret ?_
  | refine w_nil ?_
  | refine w_cons ?_
  | refine w_tup ?_
  | refine w_lst ?_
  | refine w_cb ?_
  | refine w_callR ?_
  | refine w_i0 ?_
  | refine w_gcons ?_
  | refine w_gnil ?_
  | refine w_test ?_
  | refine w_not ?_
  | refine w_ifs ?_
  | refine w_if ?_
  | refine w_expr ?_
  | refine w_eqI ?_
  | refine w_neI ?_
  | refine w_eqS ?_
  | refine w_neS ?_
  | refine w_or ?_
  | refine w_and ?_
  | refine w_par3 ?_
  | refine w_andV ?_
  | refine w_notV ?_
  | refine w_lcS ?_
  | refine w_forE ?_
  | refine w_m1 ?_
  | refine w_forL ?_
  | refine w_forR1 ?_
  | refine w_isN ?_
  | refine w_notN ?_
  | refine w_fld ?_
  | refine w_methR ?_
  | refine w_propR ?_
  | refine w_propA ?_
  | refine w_methA ?_
  | refine w_subA ?_
  | refine w_makeS ?_
  | refine w_fldS ?_
  | refine w_chain ?_
  | refine w_orV ?_
  | refine w_next ?_
  | refine w_tB ?_
  | refine w_lcL ?_
  | refine w_lcT ?_
  | refine w_lcR1 ?_
  | refine w_lcR1W ?_
  | refine w_turnW ?_
  | refine w_sl ?_
  | refine w_part ?_
  | refine w_nopart ?_
  | refine w_lcR2 ?_
  | refine w_turn ?_
  | refine w_yes ?_
  | refine w_par ?_
  | refine w_uI ?_
  | refine w_un ?_
  | refine w_one ?_)
local macro_rules | `(tactic| tm_at "at") => `(tactic| first | exact rfl | exact atI_nat rfl)
local macro_rules | `(tactic| tm_at "ix") => `(tactic| first
  | (with_reducible apply w_ixT; · tm_at "fact"
     · tm_at "at")
  | (with_reducible apply w_ixL; · tm_at "fact"
     · tm_at "at")
  | (with_reducible apply w_gtup; · tm_at "fact"
     · exact rfl))
local macro_rules | `(tactic| tm_at "sx") => `(tactic| repeat (first | tm_at "sx1" | tm_at "ix"))
theorem Mvs.kp {H H' : Hp} {T l : Addr} {ms : List V} (k : Kp T H H') (t : TapeV H T l) (h : Mvs H ms) : Mvs H' ms := fun v hv => by
  obtain ⟨m, kk, s, h1, ⟨a, h2, h3⟩, h4⟩ := h v hv
  exact ⟨m, kk, s, h1, ⟨a, k.up t h2 (fun _ z => nomatch z), k.up t h3 (fun _ z => nomatch z)⟩, h4⟩
theorem Mvs.chg {H H' : Hp} {p : Addr} {ys : List V} {ms : List V} (k : Chg p (.lst ys) H H') (h : Mvs H ms) : Mvs H' ms := fun v hv => by
  obtain ⟨m, kk, s, h1, ⟨a, h2, h3⟩, h4⟩ := h v hv
  exact ⟨m, kk, s, h1, ⟨a, k.up h2 (fun z => nomatch z), k.up h3 (fun z => nomatch z)⟩, h4⟩
theorem Ps.get {H : Hp} {vs : List V} {ps : List Pt} {i : Nat} {p : Pt} (h : Ps H vs ps) (e : ps[i]? = some p) : ∃ b, vs[i]? = some (.ref b) ∧ H b = some (tup2 p) := by
  induction h generalizing i with
  | nil => cases e
  | @cons a b l1 l2 r _ ih =>
    cases i with
    | zero => obtain ⟨c, ec, hc⟩ := r; cases e; exact ⟨c, by rw [ec]; rfl, hc⟩
    | succ i => exact ih (i := i) e
section
variable {P : Program} {w : World} {K : PySem.W.Frag} {mg : Str → Option Value} {base : Heap}
def sp__law_woven (K : PySem.W.Frag) : Sp := fun vs H Q _ => ∃ (T l : Addr), vs = [.ref T, .int 20] ∧ TapeV H T l ∧
  ∀ u N X H', Kp T H H' → TapeV H' T l → NsV H' u N X → TOk N X → N.1 * N.2.2 ≤ 20 → (∀ c ∈ X, c ∈ ABC) → Q (.ref u) H'
theorem ok__law_woven (T : Tx K mg) : FnR P w K mg base CX0 4 (He.ga K "_law_woven") (sp__law_woven K) := by
  refine fnr_of T.f__law_woven sc__law_woven (fun _ _ _ _ _ _ us hl => match us, hl with | [_, _], _ => rfl) (fun vs H Q E h => by obtain ⟨_, _, rfl, _⟩ := h; rfl) (fun cdv A outer s H vs Q E hr h => ?_)
  have nd := sc__law_woven.nd
  refine ⟨_, (pss_cons (ps_set (i := 2) nd rfl (Or.inl rfl) (pe_callR (ok__law_draw T) (hr.mono (by decide)) rfl T.g__law_draw T.k__law_draw (pa_cons (pv 0) (pa_cons pe_int pa_nil))))
    (pss_cons (ps_if (pt_cmpR op_eq (pv 2) pe_int (nomark _)) (pss_cons (ps_set (i := 3) nd rfl (Or.inr rfl) (pe_callR (ok__law_net T) (hr.mono (by decide)) rfl T.g__law_net T.k__law_net (pa_cons (pv 0) (pa_cons (pv 1) pa_nil))))
    (pss_one (ps_ret (pe_tupS (pa_cons (pv 3) (pa_cons (pe_callR (ok__law_letters T) (hr.mono (by decide)) rfl T.g__law_letters T.k__law_letters (pa_cons (pv 0) (pa_cons (pe_op op_mul (pe_ix ix_tup (pv 3) pe_int (fun _ _ => rfl)) (pe_ix ix_tup (pv 3) pe_int (fun _ _ => rfl))) pa_nil))) pa_nil)))))) pss_nil)
    (pss_cons (ps_if (pt_cmpR op_lt (pv 2) pe_int (nomark _)) (pss_cons (ps_set (i := 3) nd rfl (Or.inr rfl) (pe_callR (ok__law_square T) (hr.mono (by decide)) rfl T.g__law_square T.k__law_square (pa_cons (pv 0) (pa_cons (pv 1) pa_nil))))
    (pss_cons (ps_setLcR1W (i := 4) (own := [("_law_k", 8)]) (g := (gName 8)) rfl nd rfl rfl (sw_true rfl rfl rfl (by decide +kernel)) rfl T.b_range (pa_cons (pe_op op_add pe_int (pe_callR (ok__law_draw T) (hr.mono (by decide)) rfl T.g__law_draw T.k__law_draw (pa_cons (pv 0) (pa_cons pe_int pa_nil)))) pa_nil) (blkOk_by (N := N_law_woven) (sc := defScope s_law_woven) (by decide +kernel)) (fun _ _ _ _ _ => (pg_name (i := 8) nd rfl (Or.inl rfl))) (fun _ _ _ _ _ => pts_nil) (fun _ _ _ _ _ => (pe_callR (ok__law_move T) (hr.mono (by decide)) rfl T.g__law_move T.k__law_move (pa_cons (pv 0) (pa_cons (pv 3) pa_nil)))))
    (pss_one (ps_ret (pe_tupS (pa_cons (pv 3) (pa_cons (pe_callR (ok__law_tied T) (hr.mono (by decide)) rfl T.g__law_tied T.k__law_tied (pa_cons (pv 3) (pa_cons (pe_callR (ok__law_letters T) (hr.mono (by decide)) rfl T.g__law_letters T.k__law_letters (pa_cons (pv 0) (pa_cons (pe_op op_mul (pe_ix ix_tup (pv 3) pe_int (fun _ _ => rfl)) (pe_ix ix_tup (pv 3) pe_int (fun _ _ => rfl))) pa_nil))) (pa_cons (pv 4) pa_nil)))) pa_nil))))))) pss_nil)
    (pss_cons (ps_if (pt_cmpR op_eq (pv 2) pe_int (nomark _)) (pss_cons (ps_set (i := 3) nd rfl (Or.inr rfl) (pe_callR (ok__law_net T) (hr.mono (by decide)) rfl T.g__law_net T.k__law_net (pa_cons (pv 0) (pa_cons (pv 1) pa_nil))))
    (pss_cons (ps_set (i := 5) nd rfl (Or.inr rfl) (pe_ix ix_list (pe_lstS (pa_cons (pe_tupS (pa_cons pe_int (pa_cons pe_int pa_nil))) (pa_cons (pe_tupS (pa_cons pe_int (pa_cons pe_int pa_nil))) (pa_cons (pe_tupS (pa_cons pe_int (pa_cons pe_int pa_nil))) (pa_cons (pe_tupS (pa_cons pe_int (pa_cons (pe_un un_neg pe_int) pa_nil))) pa_nil))))) (pe_callR (ok__law_draw T) (hr.mono (by decide)) rfl T.g__law_draw T.k__law_draw (pa_cons (pv 0) (pa_cons pe_int pa_nil))) (fun _ _ => rfl)))
    (pss_cons (ps_set (i := 6) nd rfl (Or.inr rfl) (pe_callR (ok__law_letters T) (hr.mono (by decide)) rfl T.g__law_letters T.k__law_letters (pa_cons (pv 0) (pa_cons (pe_op op_mul (pe_ix ix_tup (pv 3) pe_int (fun _ _ => rfl)) (pe_ix ix_tup (pv 3) pe_int (fun _ _ => rfl))) pa_nil))))
    (pss_cons (ps_set (i := 7) nd rfl (Or.inr rfl) (pe_ix ix_list (pe_lstS (pa_cons pe_int (pa_cons pe_int (pa_cons (pe_callR (ok__law_divisor T) (hr.mono (by decide)) rfl T.g__law_divisor T.k__law_divisor (pa_cons (pe_ix ix_tup (pv 3) pe_int (fun _ _ => rfl)) (pa_cons (pe_op op_add (pe_op op_mul (pe_ix ix_tup (pv 3) pe_int (fun _ _ => rfl)) (pe_ix ix_tup (pv 5) pe_int (fun _ _ => rfl))) (pe_op op_mul (pe_ix ix_tup (pv 3) pe_int (fun _ _ => rfl)) (pe_ix ix_tup (pv 5) pe_int (fun _ _ => rfl)))) pa_nil))) pa_nil)))) (pe_callR (ok__law_draw T) (hr.mono (by decide)) rfl T.g__law_draw T.k__law_draw (pa_cons (pv 0) (pa_cons pe_int pa_nil))) (fun _ _ => rfl)))
    (pss_cons (ps_set (i := 7) nd rfl (Or.inr rfl) (pe_ifExp (PW.pt (pw_and (pt_cmpR op_eq (pe_op op_mod (pe_op op_mul (pe_ix ix_tup (pv 3) pe_int (fun _ _ => rfl)) (pe_ix ix_tup (pv 5) pe_int (fun _ _ => rfl))) (pv 7)) pe_int (nomark _)) (pw_and1 (pt_cmpR op_eq (pe_op op_mod (pe_op op_add (pe_op op_mul (pe_ix ix_tup (pv 3) pe_int (fun _ _ => rfl)) (pe_ix ix_tup (pv 5) pe_int (fun _ _ => rfl))) (pe_op op_mul (pe_ix ix_tup (pv 3) pe_int (fun _ _ => rfl)) (pe_ix ix_tup (pv 5) pe_int (fun _ _ => rfl)))) (pv 7)) pe_int (nomark _))))) (pv 7) pe_int))
    (pss_one (ps_ret (pe_tupS (pa_cons (pv 3) (pa_cons (pe_join pe_str (pe_lcL (own := [("_law_x", 9), ("_law_y", 10)]) (g := (gTup K 2 (gCons (gName 9) (gCons (gName 10) gNil)))) rfl nd (pe_callR (ok__law_spots T) (hr.mono (by decide)) rfl T.g__law_spots T.k__law_spots (pa_cons (pv 3) pa_nil)) (blkOk_by (N := N_law_woven) (sc := defScope s_law_woven) (by decide +kernel)) (fun _ _ _ _ _ => (pg_tup rfl (pgs_cons (pg_name (i := 9) nd rfl (Or.inl rfl)) (pgs_cons (pg_name (i := 10) nd rfl (Or.inl rfl)) pgs_nil)))) (fun _ _ _ _ _ => pts_nil) (fun _ _ _ _ _ => (pe_ix ix_str (pv 6) (pe_op op_mod (pe_op op_add (pe_op op_mul (pv 9) (pe_ix (r := rIxT K) ix_tup (pv 5) pe_int (fun _ _ => rfl))) (pe_op op_mul (pv 10) (pe_ix (r := rIxT K) ix_tup (pv 5) pe_int (fun _ _ => rfl)))) (pv 7)) (fun _ _ => rfl))))) pa_nil)))))))))) pss_nil)
    (pss_cons (ps_set (i := 3) nd rfl (Or.inr rfl) (pe_callR (ok__law_net T) (hr.mono (by decide)) rfl T.g__law_net T.k__law_net (pa_cons (pv 0) (pa_cons (pe_op op_fdiv (pv 1) pe_int) pa_nil))))
    (pss_one (ps_ret (pe_callR (ok__law_copied T) (hr.mono (by decide)) rfl T.g__law_copied T.k__law_copied (pa_cons (pv 0) (pa_cons (pv 3) (pa_cons (pe_callR (ok__law_letters T) (hr.mono (by decide)) rfl T.g__law_letters T.k__law_letters (pa_cons (pv 0) (pa_cons (pe_op op_mul (pe_ix ix_tup (pv 3) pe_int (fun _ _ => rfl)) (pe_ix ix_tup (pv 3) pe_int (fun _ _ => rfl))) pa_nil))) (pa_cons (pv 1) pa_nil)))))))))))), ?_⟩
  try dsimp only [cxOf]
  obtain ⟨T0, l, rfl, hT, q⟩ := h
  have hsl := sizeLine_eq
  tm_at "sx"
  refine ⟨T0, l, 5, rfl, hT, by decide, by decide, fun way H1 w0 w1 k1 t1 => ?_⟩
  tm_at "sx"
  refine ⟨_, rfl, ?_⟩
  by_cases hw0 : way = 0
  · rw [decide_eq_true hw0]
    refine w_tt ?_
    tm_at "sx"
    refine ⟨T0, l, 20, rfl, t1, by decide, by decide, fun u1 N H2 k2 t2 e2 nv hz => ?_⟩
    obtain ⟨a2, c2⟩ := nv_small nv hz
    have a1 := nv.a1; have c1 := nv.c1
    have ok := nv_ok nv hz
    tm_at "sx"
    refine w_iC (.inl ⟨by omega, by omega⟩) ?_
    tm_at "sx"
    refine ⟨T0, l, N.1 * N.2.2, rfl, t2, Int.mul_nonneg (by omega) (by omega), by omega, fun L H3 k3 t3 hl hL => ?_⟩
    tm_at "sx"
    refine ⟨by show 2 ≤ sizeLine; decide, fun u H4 n4 s4 e4 => ?_⟩
    exact q u N L H4 (k1.trans (k2.trans (k3.trans (Kp.of s4)))) (t3.same s4) ⟨u1, e4, s4 _ _ (k3.up t2 e2 (fun _ z => nomatch z))⟩ ⟨ok, hl⟩ hz hL
  · rw [decide_eq_false hw0]
    refine w_ff ?_
    tm_at "sx"
    refine ⟨_, rfl, ?_⟩
    by_cases hw3 : way < 3
    · rw [decide_eq_true hw3]
      refine w_tt ?_
      tm_at "sx"
      refine ⟨T0, l, rfl, t1, fun u1 N H2 k2 t2 e2 nv hz => ?_⟩
      obtain ⟨a2, c2⟩ := nv_small nv hz
      have a1 := nv.a1; have c1 := nv.c1
      have ok := nv_ok nv hz
      tm_at "sx"
      refine ⟨T0, l, 2, rfl, t2, by decide, by decide, fun d H3 d0 d1 k3 t3 => ?_⟩
      have e3 := k3.up t2 e2 (fun _ z => nomatch z)
      tm_at "sx"
      refine ⟨(1 + d).toNat, by rw [show (((1 + d).toNat : Nat) : Int) = 1 + d by omega], by omega, fun i acc H' => Kp T0 H3 H' ∧ TapeV H' T0 l ∧ Mvs H' acc ∧ acc.length = i, fun H' s => ⟨Kp.of s, t3.same s, (fun _ h => by cases h), rfl⟩, fun D i v acc H' hi hx hD e p => ?_, fun D acc H' hD e p => ?_⟩
      · obtain ⟨k4, t4, hm, hal⟩ := p
        have nD := t3.ne hD
        tm_at "sx"
        refine ⟨rfl, ?_⟩
        tm_at "sx"
        refine ⟨T0, l, u1, N, rfl, t4, k4.up t3 e3 (fun _ z => nomatch z), ok, fun u k s H5 k5 t5 hmv hk => ⟨k5 _ _ nD.1 e, fun H6 c e6 => ⟨(k4.trans k5).chg c hD, t5.chg c nD, fun v hv => ?_, by rw [List.length_append, hal]; rfl⟩⟩⟩
        rcases List.mem_append.mp hv with z | z
        · exact (hm.kp k5 t4).chg c v z
        · obtain rfl : v = .ref u := by simpa using z
          obtain ⟨a, h1, h2⟩ := hmv
          exact ⟨u, k, s, rfl, ⟨a, c.up h1 (fun z => nomatch z), c.up h2 (fun z => nomatch z)⟩, hk⟩
      · obtain ⟨k4, t4, hm, hal⟩ := p
        have nD := t3.ne hD
        have e4 := k4.up t3 e3 (fun _ z => nomatch z)
        tm_at "sx"
        refine w_iC (.inl ⟨by omega, by omega⟩) ?_
        tm_at "sx"
        refine ⟨T0, l, N.1 * N.2.2, rfl, t4, Int.mul_nonneg (by omega) (by omega), by omega, fun L H5 k5 t5 hl hL => ?_⟩
        tm_at "sx"
        have hal : acc.length = (1 + d).toNat := hal
        refine ⟨u1, D, N, L, acc, rfl, k5.up t4 e4 (fun _ z => nomatch z), ⟨ok, hl⟩, k5 _ _ nD.1 e, hm.kp k5 t4, by omega, fun X H6 s6 hX hXL => ?_⟩
        tm_at "sx"
        refine ⟨by show 2 ≤ sizeLine; decide, fun u H7 n7 s7 e7 => ?_⟩
        exact q u N X H7 (k1.trans (k2.trans (k3.trans (k4.trans (k5.trans (Kp.of (Same.trans s6 s7))))))) ((t5.same s6).same s7) ⟨u1, e7, s7 _ _ (s6 _ _ (k5.up t4 e4 (fun _ z => nomatch z)))⟩ hX hz fun c hc => hL c (hXL c hc)
    · rw [decide_eq_false hw3]
      refine w_ff ?_
      tm_at "sx"
      refine ⟨_, rfl, ?_⟩
      by_cases hw : way = 3
      · rw [decide_eq_true hw]
        refine w_tt ?_
        tm_at "sx"
        refine ⟨T0, l, 20, rfl, t1, by decide, by decide, fun u1 N H2 k2 t2 e2 nv hz => ?_⟩
        obtain ⟨a2, c2⟩ := nv_small nv hz
        have a1 := nv.a1; have c1 := nv.c1; have b0 := nv.b0; have ba := nv.ba
        have ok := nv_ok nv hz
        tm_at "sx"
        refine ⟨by show 2 ≤ sizeLine; decide, fun p1 H3 n3 s3 e3 => ?_⟩
        tm_at "sx"
        refine ⟨by show 2 ≤ sizeLine; decide, fun p2 H4 n4 s4 e4 => ?_⟩
        tm_at "sx"
        refine ⟨by show 2 ≤ sizeLine; decide, fun p3 H5 n5 s5 e5 => ?_⟩
        tm_at "sx"
        refine ⟨by show 2 ≤ sizeLine; decide, fun p4 H6 n6 s6 e6 => ?_⟩
        tm_at "sx"
        refine ⟨by show 4 ≤ sizeLine; decide, fun pl H7 n7 s7 e7 => ?_⟩
        have g1 : H7 p1 = some (tup2 (1, 0)) := s7 _ _ (s6 _ _ (s5 _ _ (s4 _ _ e3)))
        have g2 : H7 p2 = some (tup2 (0, 1)) := s7 _ _ (s6 _ _ (s5 _ _ e4))
        have g3 : H7 p3 = some (tup2 (1, 1)) := s7 _ _ (s6 _ _ e5)
        have g4 : H7 p4 = some (tup2 (1, -1)) := s7 _ _ e6
        have hps : Ps H7 [.ref p1, .ref p2, .ref p3, .ref p4] [(1, 0), (0, 1), (1, 1), (1, -1)] := .cons ⟨p1, rfl, g1⟩ (.cons ⟨p2, rfl, g2⟩ (.cons ⟨p3, rfl, g3⟩ (.cons ⟨p4, rfl, g4⟩ .nil)))
        have s27 : Same H2 H7 := Same.trans s3 (Same.trans s4 (Same.trans s5 (Same.trans s6 s7)))
        have npT : pl ≠ T0 ∧ pl ≠ l := (((((t2.same s3).same s4).same s5).same s6)).ne n7
        have t7 := t2.same s27
        have e27 := s27 _ _ e2
        clear g1 g2 g3 g4 s3 s4 s5 s6 s7 e3 e4 e5 e6 n3 n4 n5 n6
        tm_at "sx"
        refine ⟨T0, l, 4, rfl, t7, by decide, by decide, fun d H8 d0 d1 k8 t8 => ?_⟩
        have e8 := k8 _ _ npT.1 e7
        have e28 := k8.up t7 e27 (fun _ z => nomatch z)
        obtain ⟨sl, hsl1, hs0, hs1⟩ : ∃ sl : Pt, ([(1, 0), (0, 1), (1, 1), (1, -1)] : List Pt)[d.toNat]? = some sl ∧ (sl.1 = 1 ∨ sl = (0, 1)) ∧ (sl.2 = -1 ∨ sl.2 = 0 ∨ sl.2 = 1) := by
          have : d.toNat < 4 := by omega
          match d.toNat, this with
          | 0, _ => exact ⟨_, rfl, .inl rfl, .inr (.inl rfl)⟩
          | 1, _ => exact ⟨_, rfl, .inr rfl, .inr (.inr rfl)⟩
          | 2, _ => exact ⟨_, rfl, .inl rfl, .inr (.inr rfl)⟩
          | 3, _ => exact ⟨_, rfl, .inl rfl, .inl rfl⟩
        obtain ⟨ps, hp1, hp2⟩ := hps.get hsl1
        have hp8 := k8.up t7 hp2 (fun _ z => nomatch z)
        refine w_ixL (sl_of e8) (atI_int d0 hp1) ?_
        have hsb : -1 ≤ sl.1 ∧ sl.1 ≤ 1 ∧ -1 ≤ sl.2 ∧ sl.2 ≤ 1 := by
          rcases hs0 with z | z
          · omega
          · rw [z]; decide
        tm_at "sx"
        refine w_iC (.inl ⟨by omega, by omega⟩) ?_
        tm_at "sx"
        refine ⟨T0, l, N.1 * N.2.2, rfl, t8, Int.mul_nonneg (by omega) (by omega), by omega, fun L H9 k9 t9 hl hL => ?_⟩
        have e29 := k9.up t8 e28 (fun _ z => nomatch z)
        have hp9 := k9.up t8 hp8 (fun _ z => nomatch z)
        have k09 : Kp T0 H H9 := k1.trans (k2.trans ((Kp.of s27).trans (k8.trans k9)))
        tm_at "sx"
        refine w_iC (.inl ⟨by omega, by omega⟩) ?_
        tm_at "sx"
        refine w_iC (.inl ⟨by omega, by omega⟩) ?_
        tm_at "sx"
        refine ⟨_, _, rfl, ?_⟩
        generalize hgd : Int.gcd N.1 (N.2.1 * sl.1 + N.2.2 * sl.2) = g
        have hg1 : 1 ≤ g := by
          have : Int.gcd N.1 (N.2.1 * sl.1 + N.2.2 * sl.2) ≠ 0 := fun z => by rw [Int.gcd_eq_zero_iff] at z; omega
          omega
        have hg2 : (g : Int) ≤ N.1 := by
          have := Int.gcd_dvd_left (a := N.1) (b := N.2.1 * sl.1 + N.2.2 * sl.2)
          rw [hgd] at this
          exact Int.le_of_dvd (by omega) this
        tm_at "sx"
        refine ⟨by show 3 ≤ sizeLine; decide, fun zl H10 n10 s10 e10 => ?_⟩
        have t10 := t9.same s10
        have nz := t9.ne n10
        tm_at "sx"
        refine ⟨T0, l, 3, rfl, t10, by decide, by decide, fun d3 H11 d30 d31 k11 t11 => ?_⟩
        have e11 := k11 _ _ nz.1 e10
        have e211 := k11.up t10 (s10 _ _ e29) (fun _ z => nomatch z)
        have hp11 := k11.up t10 (s10 _ _ hp9) (fun _ z => nomatch z)
        have k011 : Kp T0 H H11 := k09.trans ((Kp.of s10).trans k11)
        have hac : N.1 ≤ N.1 * N.2.2 := by
          have := Int.mul_le_mul_of_nonneg_left c1 (show 0 ≤ N.1 by omega)
          omega
        obtain ⟨sz, hz1, hz2, hz3⟩ : ∃ sz : Int, [V.int 1, V.int 2, V.int (g : Int)][d3.toNat]? = some (.int sz) ∧ 1 ≤ sz ∧ (sz ≤ N.1 * N.2.2 ∨ sz = 2) := by
          have : d3.toNat < 3 := by omega
          match d3.toNat, this with
          | 0, _ => exact ⟨1, rfl, by decide, .inl (by omega)⟩
          | 1, _ => exact ⟨2, rfl, by decide, .inr rfl⟩
          | 2, _ => exact ⟨g, rfl, by omega, .inl (by omega)⟩
        refine w_ixL (sl_of e11) (atI_int d30 hz1) ?_
        tm_at "sx"
        refine w_iC (.inl ⟨by omega, by omega⟩) ?_
        tm_at "sx"
        refine w_iC (show (0 : Int) < sz by omega) ?_
        tm_at "sx"
        refine ⟨_, rfl, ?_⟩
        -- what follows, once the size is known
        have main : ∀ z : Int, 1 ≤ z → z ≤ N.1 * N.2.2 → tRet (tTupS (tCons (tVar 3) (tCons (tM1 (fun x xs H Q => ∃ a p ys, x = V.str a ∧ xs = [V.ref p] ∧ (SqL K H p (ys.map V.str) ∨ SqT K H p (ys.map V.str)) ∧ (ys.map (·.length)).sum + ys.length * a.length ≤ 16777216 ∧ Q (V.str (Txt.join a ys)) H) (tC (V.str ""))
            (tLcL K (tCallR (sp__law_spots K) (tCons (tVar 3) tNil)) (gTup K 2 (gCons (gName 9) (gCons (gName 10) gNil))) tYes (tOp rIxS (tVar 6) (tOp (rI (fun _ j => 0 < j) fun i j => V.int (i % j)) (tOp (rI0 fun i j => V.int (i + j)) (tOp (rI CMul fun i j => V.int (i * j)) (tVar 9) (tOp (rIxT K) (tVar 5) (tC (V.int 0)))) (tOp (rI CMul fun i j => V.int (i * j)) (tVar 10) (tOp (rIxT K) (tVar 5) (tC (V.int 1))))) (tVar 7))) [9, 10])) tNil)))
            { nx := fun x H' => Q V.non H', rt := Q } [some (.ref T0), some (.int 20), some (.int way), some (.ref u1), none, some (.ref ps), some (.str (txt L)), some (.int z), none, none, none] H11 := fun z z1 z2 => by
          tm_at "sx"
          refine ⟨⟨_, rfl⟩, ?_⟩
          tm_at "sx"
          refine ⟨u1, N, rfl, e211, ok, fun l2 us H12 nl2 s12 e12 p12 => ?_⟩
          have hul : us.length = (cellL N).length := p12.len
          have hnat := ok.nat
          refine ⟨l2, us, rfl, sl_of e12, by rw [hul, cellL_len]; omega, fun i acc H' => ∃ cs : List Nat, acc = cs.map (fun c => V.str (one1 c)) ∧ cs.length = i ∧ ∀ c ∈ cs, c ∈ ABC, fun _ _ => ⟨[], rfl, rfl, fun _ h => by cases h⟩, fun D i v acc H13 hi hv hD s13 e13 pp => ?_, fun D acc H13 hD s13 e13 pp => ?_⟩
          · obtain ⟨cs, rfl, hcs, hc⟩ := pp
            obtain ⟨bx, p, rfl, hbx, hpi⟩ := (p12.same s13).at hv
            have hpc := mem_cell.mp (List.mem_of_getElem? hpi)
            have hp13 := s13 _ _ (s12 _ _ hp11)
            tm_at "sx"
            refine ⟨rfl, ?_⟩
            tm_at "sx"
            refine w_iC (.inl ⟨by omega, by omega⟩) ?_
            tm_at "sx"
            refine w_iC (.inl ⟨by omega, by omega⟩) ?_
            tm_at "sx"
            refine w_iC (show (0 : Int) < z by omega) ?_
            generalize p.1 * sl.1 + p.2 * sl.2 = y
            have y0 := Int.emod_nonneg y (b := z) (by omega)
            have y1 := Int.emod_lt_of_pos y (b := z) (by omega)
            have hlt : (y % z).toNat < L.length := by omega
            refine ⟨_, _, L[(y % z).toNat], rfl, rfl, by show L.toArray.size ≤ sizeLine; rw [List.size_toArray]; omega, atI_int y0 (show L[(y % z).toNat]? = _ from List.getElem?_eq_getElem hlt), e13, s13, fun H14 k14 s14 => ⟨cs ++ [L[(y % z).toNat]], by rw [List.map_append]; rfl, by rw [List.length_append, hcs]; rfl, fun c' hc' => ?_⟩⟩
            rcases List.mem_append.mp hc' with hh | hh
            · exact hc c' hh
            · rw [List.mem_singleton.mp hh]
              exact hL _ (List.getElem_mem hlt)
          · obtain ⟨cs, rfl, hcs, hc⟩ := pp
            have hcs : cs.length = us.length := hcs
            refine ⟨_, D, cs.map one1, rfl, rfl, .inl (join_sl (sl_of e13)), join_len _ (by rw [hcs, hul, cellL_len]; omega), ?_⟩
            rw [join0]
            tm_at "sx"
            refine ⟨by show 2 ≤ sizeLine; decide, fun u H15 n15 s15 e15 => ?_⟩
            have s1115 : Same H11 H15 := Same.trans s12 (Same.trans s13 s15)
            exact q u N cs H15 (k011.trans (Kp.of s1115)) (t11.same s1115) ⟨u1, e15, s1115 _ _ e211⟩ ⟨ok, by rw [hcs, hul, cellL_len, hnat]⟩ hz hc
        by_cases hm1 : N.1 * sl.1 % sz = 0
        · rw [decide_eq_true hm1]
          refine w_tt ?_
          tm_at "sx"
          refine w_iC (.inl ⟨by omega, by omega⟩) ?_
          tm_at "sx"
          refine w_iC (.inl ⟨by omega, by omega⟩) ?_
          tm_at "sx"
          refine w_iC (show (0 : Int) < sz by omega) ?_
          tm_at "sx"
          refine ⟨_, rfl, ?_⟩
          by_cases hm2 : (N.2.1 * sl.1 + N.2.2 * sl.2) % sz = 0
          · rw [decide_eq_true hm2]
            refine w_tt ⟨_, rfl, ?_⟩
            refine main sz hz2 ?_
            rcases hz3 with z | z
            · exact z
            · -- two colours in one place: the slope is odd there
              rw [z] at hm1 hm2 ⊢
              refine Classical.byContradiction fun hn => ?_
              have h1 : N.1 * N.2.2 = 1 := by omega
              have h2 : N.1 = 1 := by omega
              have h3 : N.2.2 = 1 := by rw [h2] at h1; omega
              have h4 : N.2.1 = 0 := by omega
              rw [h2] at hm1
              rw [h4, h3] at hm2
              rcases hs0 with y | y
              · rw [y] at hm1
                revert hm1; decide
              · rw [y] at hm2
                revert hm2; decide
          · rw [decide_eq_false hm2]
            refine w_ff ?_
            exact main 1 (by decide) (by omega)
        · rw [decide_eq_false hm1]
          refine w_ff ?_
          exact main 1 (by decide) (by omega)
      · rw [decide_eq_false hw]
        refine w_ff ?_
        tm_at "sx"
        refine w_iC ⟨by decide, by decide⟩ ?_
        tm_at "sx"
        refine ⟨T0, l, 20 / 2, rfl, t1, by decide, by decide, fun u1 N H2 k2 t2 e2 nv hz => ?_⟩
        have hz : N.1 * N.2.2 ≤ 20 := Int.le_trans hz (by decide)
        obtain ⟨a2, c2⟩ := nv_small nv hz
        have a1 := nv.a1; have c1 := nv.c1
        have ok := nv_ok nv hz
        tm_at "sx"
        refine w_iC (.inl ⟨by omega, by omega⟩) ?_
        tm_at "sx"
        refine ⟨T0, l, N.1 * N.2.2, rfl, t2, Int.mul_nonneg (by omega) (by omega), by omega, fun L H3 k3 t3 hl hL => ?_⟩
        tm_at "sx"
        exact ⟨T0, l, u1, N, L, rfl, t3, k3.up t2 e2 (fun _ z => nomatch z), ⟨ok, hl⟩, hz, fun u N2 X H4 k4 t4 hv hX hz2 hXL => q u N2 X H4 (k1.trans (k2.trans (k3.trans k4))) t4 hv hX hz2 fun c hc => hL c (hXL c hc)⟩
def sp__law_least (K : PySem.W.Frag) : Sp := fun vs H Q _ => ∃ (T l : Addr), vs = [.ref T, .int 20] ∧ TapeV H T l ∧
  ∀ u N X H', Kp T H H' → TapeV H' T l → NsV H' u N X → Exact N X → N.1 * N.2.2 ≤ 20 → (∀ c ∈ X, c ∈ ABC) → Q (.ref u) H'
theorem ok__law_least (T : Tx K mg) : FnR P w K mg base CX0 5 (He.ga K "_law_least") (sp__law_least K) := by
  refine fnr_of T.f__law_least sc__law_least (fun _ _ _ _ _ _ us hl => match us, hl with | [_, _], _ => rfl) (fun vs H Q E h => by obtain ⟨_, _, rfl, _⟩ := h; rfl) (fun cdv A outer s H vs Q E hr h => ?_)
  have nd := sc__law_least.nd
  refine ⟨_, (pss_cons (ps_asg (pe_callR (ok__law_woven T) (hr.mono (by decide)) rfl T.g__law_woven T.k__law_woven (pa_cons (pv 0) (pa_cons (pv 1) pa_nil))) (pg_tup rfl (pgs_cons (pg_name (i := 2) nd rfl (Or.inl rfl)) (pgs_cons (pg_name (i := 3) nd rfl (Or.inl rfl)) pgs_nil))))
    (pss_one (ps_ret (pe_callR (ok__law_exact T) (hr.mono (by decide)) rfl T.g__law_exact T.k__law_exact (pa_cons (pv 2) (pa_cons (pv 3) pa_nil)))))), ?_⟩
  try dsimp only [cxOf]
  obtain ⟨T0, l, rfl, hT, q⟩ := h
  tm_at "sx"
  refine ⟨T0, l, rfl, hT, fun u N X H1 k1 t1 hv hX hz hc => ?_⟩
  obtain ⟨a, h1, h2⟩ := hv
  tm_at "sx"
  refine ⟨a, N, X, rfl, h2, hX, fun u2 N2 X2 H2 s2 hv2 ex _ _ hz2 hc2 => ?_⟩
  exact q u2 N2 X2 H2 (k1.trans (Kp.of s2)) (t1.same s2) hv2 ex (by omega) fun c h => hc c (hc2 c h)
end
end Cp
set_option Elab.async false
set_option linter.all false
set_option maxRecDepth 100000
set_option maxHeartbeats 2000000
/-! F35: the borders of all parts. -/
namespace Cp
open PySem PySem.Spec PyProof.Rows L2
local macro_rules | `(tactic| tm_at "fact") => `(tactic| first
  | assumption
  | (apply Same.up; · assumption
     tm_at "fact")
  | (apply Same.upS; · assumption
     tm_at "fact")
  | (apply Same.upL; · assumption
     tm_at "fact")
  | (apply sq_of; tm_at "fact")
  | (apply sl_of; tm_at "fact")
  | (apply Chg.up; · assumption
     · tm_at "fact"
     · exact fun z => nomatch z)
  | (apply Chg.upS; · assumption
     · tm_at "fact"
     · exact fun _ z => nomatch z
     · exact fun _ _ z => nomatch z))
local macro_rules | `(tactic| tm_at "same") => `(tactic| first
  | assumption
  | exact Same.refl _
  | (refine Same.trans ?_ ?_; rotate_left; · assumption
     tm_at "same"))
local macro_rules | `(tactic| tm_at "sx1") => `(tactic| with_reducible first
  | refine w_var rfl ?_
  | refine w_c ?_
  | refine w_op ?_
  | refine w_seq ?_
  | refine w_asg ?_
  | refine w_gname ?_
  | refine w_ret ?_
  | refine w_nil ?_
  | refine w_cons ?_
  | refine w_tup ?_
  | refine w_lst ?_
  | refine w_cb ?_
  | refine w_callR ?_
  | refine w_i0 ?_
  | refine w_gcons ?_
  | refine w_gnil ?_
  | refine w_test ?_
  | refine w_not ?_
  | refine w_ifs ?_
  | refine w_if ?_
  | refine w_expr ?_
  | refine w_eqI ?_
  | refine w_neI ?_
  | refine w_eqS ?_
  | refine w_neS ?_
  | refine w_or ?_
  | refine w_and ?_
  | refine w_par3 ?_
  | refine w_andV ?_
  | refine w_notV ?_
  | refine w_lcS ?_
  | refine w_forE ?_
  | refine w_m1 ?_
  | refine w_forL ?_
  | refine w_forR1 ?_
  | refine w_isN ?_
  | refine w_notN ?_
  | refine w_fld ?_
  | refine w_methR ?_
  | refine w_propR ?_
  | refine w_propA ?_
  | refine w_methA ?_
  | refine w_subA ?_
  | refine w_makeS ?_
  | refine w_fldS ?_
  | refine w_chain ?_
  | refine w_orV ?_
  | refine w_next ?_
  | refine w_tB ?_
  | refine w_lcL ?_
  | refine w_lcT ?_
  | refine w_lcR1 ?_
  | refine w_lcR1W ?_
  | refine w_turnW ?_
  | refine w_sl ?_
  | refine w_part ?_
  | refine w_nopart ?_
  | refine w_lcR2 ?_
  | refine w_turn ?_
  | refine w_yes ?_
  | refine w_par ?_
  | refine w_uI ?_
  | refine w_un ?_
  | refine w_one ?_)
local macro_rules | `(tactic| tm_at "at") => `(tactic| first | exact rfl | exact atI_nat rfl)
local macro_rules | `(tactic| tm_at "ix") => `(tactic| first
  | (with_reducible apply w_ixT; · tm_at "fact"
     · tm_at "at")
  | (with_reducible apply w_ixL; · tm_at "fact"
     · tm_at "at")
  | (with_reducible apply w_gtup; · tm_at "fact"
     · exact rfl))
local macro_rules | `(tactic| tm_at "sx") => `(tactic| repeat (first | tm_at "sx1" | tm_at "ix"))
theorem int_sum {α : Type} (f : α → Nat) : ∀ l : List α, (l.map fun x => ((f x : Nat) : Int)).sum = ((l.map f).sum : Nat)
  | [] => rfl
  | a :: l => by rw [List.map_cons, List.sum_cons, int_sum f l, List.map_cons, List.sum_cons, Int.natCast_add]
section
variable {P : Program} {w : World} {K : PySem.W.Frag} {mg : Str → Option Value} {base : Heap}
def sp__law_borders_right (K : PySem.W.Frag) : Sp := fun vs H Q _ => ∃ (o t C : Addr) (n : T3) (L : List Nat), vs = [.ref o, .ref t, .str (txt L)] ∧ CarC K C ∧ CarV K H o C n L ∧ H t = some (tup3 n) ∧ (∀ c ∈ L, c ∈ LET) ∧ ∀ H', Same H H' → Q (.bl true) H'
theorem ok__law_borders_right (T : Tx K mg) : FnR P w K mg base CX0 8 (He.ga K "_law_borders_right") (sp__law_borders_right K) := by
  refine fnr_of T.f__law_borders_right sc__law_borders_right (fun _ _ _ _ _ _ us hl => match us, hl with | [_, _, _], _ => rfl) (fun vs H Q E h => by obtain ⟨_, _, _, _, _, rfl, _⟩ := h; rfl) (fun cdv A outer s H vs Q E hr h => ?_)
  have nd := sc__law_borders_right.nd
  refine ⟨_, (pss_cons (ps_set (i := 3) nd rfl (Or.inl rfl) (pe_callR (ok_parts T) (hr.mono (by decide)) rfl T.g_parts T.k_parts (pa_cons (pv 0) pa_nil)))
    (pss_cons (ps_if (pt_cmpR op_ne (pe_callB (cr_sum rfl) rfl T.b_sum bo_sum (pa_cons (pe_lcL (own := [("_law_one", 4)]) (g := (gName 4)) rfl nd (pv 3) (blkOk_by (N := N_law_borders_right) (sc := defScope s_law_borders_right) (by decide +kernel)) (fun _ _ _ _ _ => (pg_name (i := 4) nd rfl (Or.inl rfl))) (fun _ _ _ _ _ => pts_nil) (fun _ _ _ _ _ => (pe_propR (pv 4) T.c_Part T.p_Part_border (ok_Part_border T) (hr.mono (by decide))))) pa_nil)) (pe_callR (ok__law_edge T) (hr.mono (by decide)) rfl T.g__law_edge T.k__law_edge (pa_cons (pv 1) (pa_cons (pv 2) (pa_cons (pe_callR (ok__law_spots T) (hr.mono (by decide)) rfl T.g__law_spots T.k__law_spots (pa_cons (pv 1) pa_nil)) pa_nil)))) (nomark _)) (pss_one (ps_ret pe_bl)) pss_nil)
    (pss_cons (ps_if (pt_cmpR (op_neD (hu64 hr)) (pe_lcL (own := [("_law_one", 4)]) (g := (gName 4)) rfl nd (pv 3) (blkOk_by (N := N_law_borders_right) (sc := defScope s_law_borders_right) (by decide +kernel)) (fun _ _ _ _ _ => (pg_name (i := 4) nd rfl (Or.inl rfl))) (fun _ _ _ _ _ => (pts_one (pt_cmpR op_ne (pe_cmpR op_eq (pe_propR (pv 4) T.c_Part T.p_Part_border (ok_Part_border T) (hr.mono (by decide))) pe_int (nomark _)) (pe_cmpR op_eq (pe_callB (r := rLenK K) call_len rfl T.b_len bo_len (pa_cons (pe_callR (ok_touching T) (hr.mono (by decide)) rfl T.g_touching T.k_touching (pa_cons (pv 0) pa_nil)) pa_nil)) pe_int (nomark _)) (nomark _)))) (fun _ _ _ _ _ => (pv 4))) (pe_lstS pa_nil) (nomark _)) (pss_one (ps_ret pe_bl)) pss_nil)
    (pss_one (ps_ret (pe_cmpR op_eq (pe_op op_mod (pe_callB (cr_sum rfl) rfl T.b_sum bo_sum (pa_cons (pe_lcL (own := [("_law_one", 4)]) (g := (gName 4)) rfl nd (pv 3) (blkOk_by (N := N_law_borders_right) (sc := defScope s_law_borders_right) (by decide +kernel)) (fun _ _ _ _ _ => (pg_name (i := 4) nd rfl (Or.inl rfl))) (fun _ _ _ _ _ => pts_nil) (fun _ _ _ _ _ => (pe_propR (pv 4) T.c_Part T.p_Part_border (ok_Part_border T) (hr.mono (by decide))))) pa_nil)) pe_int) pe_int (nomark _))))))), ?_⟩
  try dsimp only [cxOf]
  obtain ⟨o, t, C, n, L, rfl, hC, hc, ht, hL, q⟩ := h
  have ok : TOk n L := by obtain ⟨_, _, _, _, h⟩ := hc; exact h
  have hsl := sizeLine_eq
  have hnat := ok.net.nat; have hsz := ok.net.sz
  have hcl : (cellL n).length ≤ 4000 := by rw [cellL_len]; omega
  tm_at "sx"
  refine ⟨o, C, n, L, rfl, hC, hc, fun l us ds H1 nl s1 e1 pds pok cov => ?_⟩
  have hul : us.length = ds.length := Paired.length pds
  have hdl := pok.len
  have body : ∀ (o4 : Option V) (H2 : Hp) (Q' : VK), Same H1 H2 → (∀ D H3, Same H2 H3 → SqL K H3 D ((ds.map fun d => (d.b : Int)).map V.int) → Q' (.ref D) H3) →
      LcBody (gName 4) tYes (tPropR (He.ga K "Part") (sp_Part_border K) (tVar 4)) [4] [some (.ref o), some (.ref t), some (.str (txt L)), some (.ref l), o4] H2 us.length (fun i x => us[i]? = some x) Q' := fun o4 H2 Q' s2 hq => by
    refine ⟨by omega, fun i acc H' => acc = ((ds.take i).map fun d => V.int (d.b : Int)), fun _ _ => rfl, fun D i v acc H' hi hx hD s3 e p => ?_, fun D acc H' hD s3 e p => ?_⟩
    · subst p
      obtain ⟨d, hdi, pd⟩ := pds.at hx
      obtain ⟨x, b, kp, kvp, rfl, g1, _, g2, g3, g4⟩ := pd.same (Same.trans s2 s3)
      obtain ⟨dxp, bs, g5, g6⟩ := id g4
      tm_at "sx"
      refine ⟨rfl, ?_⟩
      tm_at "sx"
      refine ⟨x, dxp, _, rfl, g5, x, _, b, kp, _, d.bas, _, rfl, g4, e, s3, fun H5 c s5 => ?_⟩
      rw [List.take_add_one, hdi, List.map_append]; rfl
    · subst p
      refine hq D H' s3 (sl_of ?_)
      rw [e, hul, List.take_length, List.map_map]; rfl
  have hsum : (ds.map fun d => (d.b : Int)).sum = (((cellL n).map (dif (colr n L))).sum : Nat) := by rw [int_sum, borders_sum ok.net pok cov]
  tm_at "sx"
  refine ⟨l, us, rfl, sl_of e1, body none H1 _ (Same.refl _) fun D H2 s2 hD => ?_⟩
  tm_at "sx"
  refine ⟨D, _, rfl, hD, ?_⟩
  tm_at "sx"
  have s02 := Same.trans s1 s2
  refine ⟨t, n, rfl, s02 _ _ ht, ok.net, fun l2 us2 H3 nl2 s3 e3 p3 => ?_⟩
  tm_at "sx"
  have s03 := Same.trans s02 s3
  refine ⟨t, l2, n, L, us2, rfl, s03 _ _ ht, ok, e3, p3, fun H4 s4 => ?_⟩
  tm_at "sx"
  refine ⟨_, rfl, ?_⟩
  rw [decide_eq_true hsum]
  refine w_ff ?_
  tm_at "sx"
  have s04 := Same.trans s03 s4
  have s14 : Same H1 H4 := Same.trans s2 (Same.trans s3 s4)
  refine ⟨l, us, rfl, sl_of (s14 _ _ e1), by omega, fun i acc H' => acc = [], fun _ _ => rfl, fun D2 i v acc H' hi hx hD2 s5 e p => ?_, fun D2 acc H' hD2 s5 e p => ?_⟩
  · subst p
    obtain ⟨d, hdi, pd⟩ := pds.at hx
    obtain ⟨x, b, kp, kvp, rfl, g1, _, g2, g3, g4⟩ := pd.same (Same.trans s14 s5)
    obtain ⟨dxp, bs, g5, g6⟩ := id g4
    have hpd := pok.all d (List.mem_of_getElem? hdi)
    tm_at "sx"
    refine ⟨rfl, ?_⟩
    tm_at "sx"
    refine ⟨x, dxp, _, rfl, g5, x, _, b, kp, _, d.bas, _, rfl, g4, ?_⟩
    tm_at "sx"
    have s05 := Same.trans s04 s5
    refine ⟨o, C, n, L, rfl, hC, hc.up s05, hL, fun l6 xs6 H6 s6 e6 _ hxs => ?_⟩
    tm_at "sx"
    refine ⟨.ref l6, xs6.length, rfl, .inl ⟨xs6, sl_of e6, rfl⟩, ?_⟩
    tm_at "sx"
    have hb : (((d.b : Nat) : Int) = 0) ↔ (((xs6.length : Nat) : Int) = 0) := by
      have h1 := border_zero ok.net hpd
      have h2 := plain_iff (L := L) ok.net
      have h3 : xs6.length = 0 ↔ d.b = 0 := by rw [List.length_eq_zero_iff, hxs, h1, ← h2]; rfl
      omega
    refine ⟨rfl, ?_⟩
    refine ⟨false, ?_, w_ff ⟨s6 _ _ e, Same.trans s5 s6, rfl⟩⟩
    have : decide (V.bl (decide (((d.b : Nat) : Int) = 0)) = V.bl (decide (((xs6.length : Nat) : Int) = 0))) = true := by
      refine decide_eq_true ?_
      rw [decide_eq_decide.mpr hb]
    rw [this]; rfl
  · subst p
    tm_at "sx"
    refine ⟨Nat.zero_le _, fun em H6 n6 s6 e6 => ?_⟩
    refine w_nePs (ps := []) (sl_of (s6 _ _ e)) .nil (sl_of e6) ?_
    refine ⟨_, rfl, ?_⟩
    rw [decide_eq_true rfl]
    refine w_ff ?_
    tm_at "sx"
    have s46 : Same H4 H6 := Same.trans s5 s6
    have s16 : Same H1 H6 := Same.trans s14 s46
    refine ⟨l, us, rfl, sl_of (s16 _ _ e1), body none H6 _ s16 fun D H7 s7 hD => ?_⟩
    tm_at "sx"
    refine ⟨D, _, rfl, hD, ?_⟩
    tm_at "sx"
    refine w_iC (show (0 : Int) < 2 by decide) ?_
    tm_at "sx"
    rw [decide_eq_true (show (ds.map fun d => (d.b : Int)).sum % 2 = 0 by
      rw [hsum]
      have := edges_even (L := L) ok.net
      omega)]
    exact q _ (Same.trans s04 (Same.trans s46 s7))
end
end Cp
set_option Elab.async false
set_option linter.all false
set_option maxRecDepth 100000
set_option maxHeartbeats 2000000
/-! F36: a neighbour of another colour. -/
namespace Cp
open PySem PySem.Spec PyProof.Rows L2
local macro_rules | `(tactic| tm_at "fact") => `(tactic| first
  | assumption
  | (apply Same.up; · assumption
     tm_at "fact")
  | (apply Same.upS; · assumption
     tm_at "fact")
  | (apply Same.upL; · assumption
     tm_at "fact")
  | (apply sq_of; tm_at "fact")
  | (apply sl_of; tm_at "fact")
  | (apply Chg.up; · assumption
     · tm_at "fact"
     · exact fun z => nomatch z)
  | (apply Chg.upS; · assumption
     · tm_at "fact"
     · exact fun _ z => nomatch z
     · exact fun _ _ z => nomatch z))
local macro_rules | `(tactic| tm_at "same") => `(tactic| first
  | assumption
  | exact Same.refl _
  | (refine Same.trans ?_ ?_; rotate_left; · assumption
     tm_at "same"))
local macro_rules | `(tactic| tm_at "sx1") => `(tactic| with_reducible first
  | refine w_var rfl ?_
  | refine w_c ?_
  | refine w_op ?_
  | refine w_seq ?_
  | refine w_asg ?_
  | refine w_gname ?_
  | refine w_ret ?_
  | refine w_nil ?_
  | refine w_cons ?_
  | refine w_tup ?_
  | refine w_lst ?_
  | refine w_cb ?_
  | refine w_callR ?_
  | refine w_i0 ?_
  | refine w_gcons ?_
  | refine w_gnil ?_
  | refine w_test ?_
  | refine w_not ?_
  | refine w_ifs ?_
  | refine w_if ?_
  | refine w_expr ?_
  | refine w_eqI ?_
  | refine w_neI ?_
  | refine w_eqS ?_
  | refine w_neS ?_
  | refine w_or ?_
  | refine w_and ?_
  | refine w_par3 ?_
  | refine w_andV ?_
  | refine w_notV ?_
  | refine w_lcS ?_
  | refine w_forE ?_
  | refine w_m1 ?_
  | refine w_forL ?_
  | refine w_forR1 ?_
  | refine w_isN ?_
  | refine w_notN ?_
  | refine w_fld ?_
  | refine w_methR ?_
  | refine w_propR ?_
  | refine w_propA ?_
  | refine w_methA ?_
  | refine w_subA ?_
  | refine w_makeS ?_
  | refine w_fldS ?_
  | refine w_chain ?_
  | refine w_orV ?_
  | refine w_next ?_
  | refine w_tB ?_
  | refine w_lcL ?_
  | refine w_lcT ?_
  | refine w_lcR1 ?_
  | refine w_lcR1W ?_
  | refine w_turnW ?_
  | refine w_sl ?_
  | refine w_part ?_
  | refine w_nopart ?_
  | refine w_lcR2 ?_
  | refine w_turn ?_
  | refine w_yes ?_
  | refine w_par ?_
  | refine w_uI ?_
  | refine w_un ?_
  | refine w_one ?_)
local macro_rules | `(tactic| tm_at "at") => `(tactic| first | exact rfl | exact atI_nat rfl)
local macro_rules | `(tactic| tm_at "ix") => `(tactic| first
  | (with_reducible apply w_ixT; · tm_at "fact"
     · tm_at "at")
  | (with_reducible apply w_ixL; · tm_at "fact"
     · tm_at "at")
  | (with_reducible apply w_gtup; · tm_at "fact"
     · exact rfl))
local macro_rules | `(tactic| tm_at "sx") => `(tactic| repeat (first | tm_at "sx1" | tm_at "ix"))
theorem keys_to {H : Hp} {kvs : List (List Key × V)} {bs : List Addr} {M : List (Pt × Pt)} (h : IsKeys H kvs bs) (g : KV H kvs M) : (∀ b ∈ bs, ∃ e ∈ M, H b = some (tup2 e.1)) ∧ ∀ e ∈ M, ∃ b ∈ bs, H b = some (tup2 e.1) := by
  unfold IsKeys at h
  induction h generalizing M with
  | nil => cases g; exact ⟨fun _ h => (by cases h), fun _ h => (by cases h)⟩
  | @cons a b l1 l2 r _ ih =>
    cases g with
    | @cons _ e _ M r2 g2 =>
      obtain ⟨h1, h2⟩ := ih g2
      have hb : H b = some (tup2 e.1) := by rw [r2.1] at r; exact r
      refine ⟨fun c hc => ?_, fun x hx => ?_⟩
      · rcases List.mem_cons.mp hc with rfl | hc
        · exact ⟨e, List.mem_cons_self .., hb⟩
        · obtain ⟨y, hy, hz⟩ := h1 c hc
          exact ⟨y, List.mem_cons_of_mem _ hy, hz⟩
      · rcases List.mem_cons.mp hx with rfl | hx
        · exact ⟨b, List.mem_cons_self .., hb⟩
        · obtain ⟨y, hy, hz⟩ := h2 x hx
          exact ⟨y, List.mem_cons_of_mem _ hy, hz⟩
theorem kv_pair {H : Hp} {kvs : List (List Key × V)} {M : List (Pt × Pt)} (g : KV H kvs M) : ∀ kv ∈ kvs, ∃ i j : Int, kv.1 = [.inl i, .inl j] := by
  induction g with
  | nil => intro _ h; cases h
  | @cons a e _ _ r _ ih =>
    intro kv hkv
    rcases List.mem_cons.mp hkv with rfl | hkv
    · exact ⟨_, _, r.1⟩
    · exact ih kv hkv
section
variable {P : Program} {w : World} {K : PySem.W.Frag} {mg : Str → Option Value} {base : Heap}
def sp__law_neighbour (K : PySem.W.Frag) : Sp := fun vs H Q _ => ∃ (t a : Addr) (n : T3) (L : List Nat) (p0 : Pt), vs = [.ref t, .str (txt L), .ref a] ∧ H t = some (tup3 n) ∧ TOk n L ∧ H a = some (tup2 p0) ∧ p0 ∈ cellL n ∧
  (∀ H', Same H H' → (∀ k, Cl (colr n L) n p0 k → dif (colr n L) k = 0) → Q .non H') ∧
  ∀ l u v bu bv H', Same H H' → H' l = some (.lst [.ref bu, .ref bv]) → H' bu = some (tup2 u) → H' bv = some (tup2 v) → Conn (colr n L) p0 u → v ∈ nbs u → colr n L v ≠ colr n L u → Q (.ref l) H'
theorem ok__law_neighbour (T : Tx K mg) : FnR P w K mg base CX0 4 (He.ga K "_law_neighbour") (sp__law_neighbour K) := by
  refine fnr_of T.f__law_neighbour sc__law_neighbour (fun _ _ _ _ _ _ us hl => match us, hl with | [_, _, _], _ => rfl) (fun vs H Q E h => by obtain ⟨_, _, _, _, _, rfl, _⟩ := h; rfl) (fun cdv A outer s H vs Q E hr h => ?_)
  have nd := sc__law_neighbour.nd
  refine ⟨_, (pss_cons (ps_set (i := 3) nd rfl (Or.inl rfl) (pe_ix ix_tup (pe_callR (ok__law_gone T) (hr.mono (by decide)) rfl T.g__law_gone T.k__law_gone (pa_cons (pv 0) (pa_cons (pv 1) (pa_cons (pv 2) pa_nil)))) pe_int (fun _ _ => rfl)))
    (pss_cons (ps_for PassesOwn.never rfl (pi_list (pe_callB (cr_sortedDT rfl) rfl T.b_sorted bo_sorted (pa_cons (pv 3) pa_nil))) (pg_name (i := 4) nd rfl (Or.inl rfl)) (pss_one (ps_for PassesOwn.never rfl (pi_list (pe_callR (ok__law_near T) (hr.mono (by decide)) rfl T.g__law_near T.k__law_near (pa_cons (pe_dget (hu_of hr) (pv 3) (pv 4) (fun _ _ => rfl)) pa_nil))) (pg_name (i := 5) nd rfl (Or.inl rfl)) (pss_one (ps_if (pt_cmpR op_ne (pe_callR (ok__law_seen T) (hr.mono (by decide)) rfl T.g__law_seen T.k__law_seen (pa_cons (pv 0) (pa_cons (pv 1) (pa_cons (pv 5) pa_nil)))) (pe_callR (ok__law_seen T) (hr.mono (by decide)) rfl T.g__law_seen T.k__law_seen (pa_cons (pv 0) (pa_cons (pv 1) (pa_cons (pv 2) pa_nil)))) (nomark _)) (pss_one (ps_ret (pe_lstS (pa_cons (pe_dget (hu_of hr) (pv 3) (pv 4) (fun _ _ => rfl)) (pa_cons (pv 5) pa_nil))))) pss_nil)))))
    (pss_one (ps_ret pe_non)))), ?_⟩
  try dsimp only [cxOf]
  obtain ⟨t, a, n, L, p0, rfl, ht, ok, ha, hp0, q0, q1⟩ := h
  have hsl := sizeLine_eq
  tm_at "sx"
  refine ⟨t, a, n, L, p0, rfl, ht, ok, ha, hp0, fun u H1 M S b kn sl kvs s1 e1 hk hkv df => ?_⟩
  tm_at "sx"
  refine ⟨kn, kvs, rfl, hk, kv_pair hkv, fun bs ys pl H2 hks hperm npl s2 e2 => ?_⟩
  obtain ⟨kt1, kt2⟩ := keys_to hks hkv
  have s02 := Same.trans s1 s2
  have hk2 := s2 _ _ hk
  have hkv2 := hkv.same s2
  refine ⟨pl, rfl, ⟨ys, sl_of e2⟩, ?_⟩
  refine for_list (xs := ys) (fun i σ H' => (∃ o4 o5 : Option V, σ = [some (.ref t), some (.str (txt L)), some (.ref a), some (.ref kn), o4, o5]) ∧ Same H2 H' ∧ ∀ b e, V.ref b ∈ ys.take i → e ∈ M → H1 b = some (tup2 e.1) → dif (colr n L) e.2 = 0)
    ⟨⟨none, none, rfl⟩, Same.refl _, fun b e hb => (by simp at hb)⟩ (fun i σ H' _ hI => Same.upL hI.2.1 (sl_of e2)) (fun i x σ H' hx hI => ?_) (fun σ H' hI => ?_)
  · obtain ⟨⟨o4, o5, rfl⟩, s3, hvis⟩ := hI
    obtain ⟨b, hbm, rfl⟩ := List.mem_map.mp (hperm.mem_iff.mp (List.mem_of_getElem? hx))
    obtain ⟨e, heM, heb⟩ := kt1 b hbm
    have s13 : Same H1 H' := Same.trans s2 s3
    have s03 := Same.trans s02 s3
    have hk3 := s13 _ _ hk
    have heb3 := s13 _ _ heb
    have fe := fnd_nodup df.nod heM
    obtain ⟨br, hbr, hbr2⟩ := (hkv.same s13).some fe
    tm_at "sx"
    refine ⟨_, rfl, _, rfl, kn, .ref br, rfl, by rw [← hbr]; exact DGet.t (k := kP e.1) hk3 heb3, ?_⟩
    tm_at "sx"
    refine ⟨br, e.2, rfl, hbr2, fun nl ns H4 nn s4 e4 p4 => ?_⟩
    have hconn := df.conn e heM
    have hcol := df.col e heM
    refine ⟨nl, rfl, ⟨_, sl_of e4⟩, ?_⟩
    refine for_list (xs := ns) (fun j σ H' => (∃ o5 : Option V, σ = [some (.ref t), some (.str (txt L)), some (.ref a), some (.ref kn), some (.ref b), o5]) ∧ Same H4 H' ∧ ∀ q ∈ (lnb e.2).take j, colr n L q = colr n L p0)
      ⟨⟨_, rfl⟩, Same.refl _, fun q hq => (by simp at hq)⟩ (fun j σ H' _ hJ => Same.upL hJ.2.1 (sl_of e4)) (fun j x σ H5 hx hJ => ?_) (fun σ H5 hJ => ?_)
    · obtain ⟨⟨o5, rfl⟩, s5, hq⟩ := hJ
      obtain ⟨bq, qq, rfl, hbq, hqi⟩ := (p4.same s5).at hx
      have s35 : Same H' H5 := Same.trans s4 s5
      have s05 := Same.trans s03 s35
      tm_at "sx"
      refine ⟨t, bq, n, L, qq, rfl, s05 _ _ ht, ok, hbq, fun H6 s6 => ?_⟩
      tm_at "sx"
      refine ⟨t, a, n, L, p0, rfl, s6 _ _ (s05 _ _ ht), ok, s6 _ _ (s05 _ _ ha), fun H7 s7 => ?_⟩
      tm_at "sx"
      refine ⟨_, rfl, ?_⟩
      have s57 : Same H5 H7 := Same.trans s6 s7
      by_cases hce : colr n L qq = colr n L p0
      · rw [decide_eq_true (one1_inj.mpr hce)]
        refine w_ff ⟨⟨_, rfl⟩, Same.trans s5 s57, fun q hq' => ?_⟩
        rw [List.take_add_one, hqi] at hq'
        rcases List.mem_append.mp hq' with z | z
        · exact hq q z
        · obtain rfl : q = qq := by simpa using z
          exact hce
      · rw [decide_eq_false (fun z => hce (one1_inj.mp z))]
        refine w_tt ?_
        have s37 : Same H' H7 := Same.trans s35 s57
        tm_at "sx"
        refine ⟨_, rfl, _, rfl, kn, .ref br, rfl, by rw [← hbr]; exact DGet.t (k := kP e.1) (s37 _ _ hk3) (s37 _ _ heb3), ?_⟩
        tm_at "sx"
        refine ⟨by show 2 ≤ sizeLine; decide, fun l H8 n8 s8 e8 => ?_⟩
        refine q1 l e.2 qq br bq H8 (Same.trans s03 (Same.trans s37 s8)) e8 (s8 _ _ (s37 _ _ hbr2)) (s8 _ _ (s57 _ _ hbq)) hconn (lnb_mem.mp (List.mem_of_getElem? hqi)) ?_
        rw [hcol]; exact hce
    · obtain ⟨⟨o5, rfl⟩, s5, hq⟩ := hJ
      refine ⟨⟨_, _, rfl⟩, Same.trans s3 (Same.trans s4 s5), fun b' e' hb' he' hh => ?_⟩
      rw [List.take_add_one, hx] at hb'
      rcases List.mem_append.mp hb' with z | z
      · exact hvis b' e' z he' hh
      · obtain rfl : b' = b := by simpa using z
        rw [heb] at hh
        have h1 : e.1 = e'.1 := by
          have h2 := Option.some.inj hh
          injection h2 with h2
          injection h2 with h3 h4
          injection h3 with h3
          injection h4 with h4 _
          injection h4 with h4
          exact Prod.ext h3 h4
        have fe' := fnd_nodup df.nod he'
        rw [← h1, fe] at fe'
        have h2 : e.2 = e'.2 := Option.some.inj fe'
        rw [← h2, dif_zero]
        intro q hq'
        rw [hcol]
        refine hq q ?_
        rw [show ns.length = 4 from p4.len, List.take_of_length_le (Nat.le_of_eq (lnb_len _))]
        exact lnb_mem.mpr hq'
  · obtain ⟨⟨o4, o5, rfl⟩, s3, hvis⟩ := hI
    rw [List.take_length] at hvis
    tm_at "sx"
    refine q0 H' (Same.trans s02 s3) fun k hk' => ?_
    obtain ⟨e, he, hl⟩ := List.mem_map.mp ((df.mem ok.net k).mpr hk')
    obtain ⟨b, hb, hbe⟩ := kt2 e he
    have := hvis b e (hperm.mem_iff.mpr (List.mem_map.mpr ⟨b, hb, rfl⟩)) he hbe
    rw [← dif_low ok.net, ← hl, ← df.low e he, dif_low ok.net]
    exact this
end
end Cp
set_option Elab.async false
set_option linter.all false
set_option maxRecDepth 100000
set_option maxHeartbeats 2000000
/-! F37: a part joined, a part painted anew. -/
namespace Cp
open PySem PySem.Spec PyProof.Rows L2
local macro_rules | `(tactic| tm_at "fact") => `(tactic| first
  | assumption
  | (apply Same.up; · assumption
     tm_at "fact")
  | (apply Same.upS; · assumption
     tm_at "fact")
  | (apply Same.upL; · assumption
     tm_at "fact")
  | (apply sq_of; tm_at "fact")
  | (apply sl_of; tm_at "fact")
  | (apply Chg.up; · assumption
     · tm_at "fact"
     · exact fun z => nomatch z)
  | (apply Chg.upS; · assumption
     · tm_at "fact"
     · exact fun _ z => nomatch z
     · exact fun _ _ z => nomatch z))
local macro_rules | `(tactic| tm_at "same") => `(tactic| first
  | assumption
  | exact Same.refl _
  | (refine Same.trans ?_ ?_; rotate_left; · assumption
     tm_at "same"))
local macro_rules | `(tactic| tm_at "sx1") => `(tactic| with_reducible first
  | refine w_var rfl ?_
  | refine w_c ?_
  | refine w_op ?_
  | refine w_seq ?_
  | refine w_asg ?_
  | refine w_gname ?_
  | refine w_ret ?_
  | refine w_nil ?_
  | refine w_cons ?_
  | refine w_tup ?_
  | refine w_lst ?_
  | refine w_cb ?_
  | refine w_callR ?_
  | refine w_i0 ?_
  | refine w_gcons ?_
  | refine w_gnil ?_
  | refine w_test ?_
  | refine w_not ?_
  | refine w_ifs ?_
  | refine w_if ?_
  | refine w_expr ?_
  | refine w_eqI ?_
  | refine w_neI ?_
  | refine w_eqS ?_
  | refine w_neS ?_
  | refine w_or ?_
  | refine w_and ?_
  | refine w_par3 ?_
  | refine w_andV ?_
  | refine w_notV ?_
  | refine w_lcS ?_
  | refine w_forE ?_
  | refine w_m1 ?_
  | refine w_forL ?_
  | refine w_forR1 ?_
  | refine w_isN ?_
  | refine w_notN ?_
  | refine w_fld ?_
  | refine w_methR ?_
  | refine w_propR ?_
  | refine w_propA ?_
  | refine w_methA ?_
  | refine w_subA ?_
  | refine w_makeS ?_
  | refine w_fldS ?_
  | refine w_chain ?_
  | refine w_orV ?_
  | refine w_next ?_
  | refine w_tB ?_
  | refine w_lcL ?_
  | refine w_lcT ?_
  | refine w_lcR1 ?_
  | refine w_lcR1W ?_
  | refine w_turnW ?_
  | refine w_sl ?_
  | refine w_part ?_
  | refine w_nopart ?_
  | refine w_lcR2 ?_
  | refine w_turn ?_
  | refine w_yes ?_
  | refine w_par ?_
  | refine w_uI ?_
  | refine w_un ?_
  | refine w_one ?_)
local macro_rules | `(tactic| tm_at "at") => `(tactic| first | exact rfl | exact atI_nat rfl)
local macro_rules | `(tactic| tm_at "ix") => `(tactic| first
  | (with_reducible apply w_ixT; · tm_at "fact"
     · tm_at "at")
  | (with_reducible apply w_ixL; · tm_at "fact"
     · tm_at "at")
  | (with_reducible apply w_gtup; · tm_at "fact"
     · exact rfl))
local macro_rules | `(tactic| tm_at "sx") => `(tactic| repeat (first | tm_at "sx1" | tm_at "ix"))
theorem abc_let {c : Nat} (h : c ∈ ABC) : c ∈ LET ∧ c ≠ 109 ∧ c ≠ 107 := by
  have : ∀ c ∈ ABC, c ∈ LET ∧ c ≠ 109 ∧ c ≠ 107 := by decide
  exact this c h
theorem m_str : ("m" : Str) = one1 109 := by decide +kernel
theorem k_str : ("k" : Str) = one1 107 := by decide +kernel
/-- two parts of one class have the same places -/
theorem keys_same {n : T3} {L : List Nat} (ok : NOk n) {d e : PD} (hd : PDok n L d) (he : PDok n L e) (h : low n d.p0 ∈ e.M.map (·.1)) (k : Pt) : k ∈ d.M.map (·.1) ↔ k ∈ e.M.map (·.1) := by
  have hx := he.cls ok h
  have key : ∀ q, low n q ∈ d.M.map (·.1) ↔ low n q ∈ e.M.map (·.1) := fun q => by
    rw [hd.df.mem ok, he.df.mem ok]
    exact ⟨fun z => hx.trans ok.nv (per ok L) z, fun z => (hx.symm ok.nv (per ok L)).trans ok.nv (per ok L) z⟩
  constructor
  · intro z
    have l := (hd.df.key ok z).2
    have := (key k).mp (by rw [l]; exact z)
    rwa [l] at this
  · intro z
    have l := (he.df.key ok z).2
    have := (key k).mpr (by rw [l]; exact z)
    rwa [l] at this
theorem paint_same {n : T3} {L : List Nat} {ks ms : List Pt} (h : ∀ k, k ∈ ks ↔ k ∈ ms) (c : Nat) : paintL n L ks c = paintL n L ms c := by
  unfold paintL
  refine List.map_congr_left fun q _ => ?_
  by_cases z : q ∈ ks
  · rw [if_pos z, if_pos ((h q).mp z)]
  · rw [if_neg z, if_neg (fun y => z ((h q).mpr y))]
section
variable {P : Program} {w : World} {K : PySem.W.Frag} {mg : Str → Option Value} {base : Heap}
def sp__law_joins (K : PySem.W.Frag) : Sp := fun vs H Q _ => ∃ (o t C : Addr) (n : T3) (L : List Nat) (v : V) (d : PD), vs = [.ref o, .ref t, .str (txt L), v] ∧ CarC K C ∧ CarV K H o C n L ∧ H t = some (tup3 n) ∧ Exact n L ∧ (∀ c ∈ L, c ∈ ABC) ∧ PDok n L d ∧ PartD K (fun _ => True) H n L v d ∧ ∀ H', Same H H' → Q (.bl true) H'
theorem ok__law_joins (T : Tx K mg) : FnR P w K mg base CX0 10 (He.ga K "_law_joins") (sp__law_joins K) := by
  refine fnr_of T.f__law_joins sc__law_joins (fun _ _ _ _ _ _ us hl => match us, hl with | [_, _, _, _], _ => rfl) (fun vs H Q E h => by obtain ⟨_, _, _, _, _, _, _, rfl, _⟩ := h; rfl) (fun cdv A outer s H vs Q E hr h => ?_)
  have nd := sc__law_joins.nd
  refine ⟨_, (pss_cons (ps_set (i := 4) nd rfl (Or.inl rfl) (pe_callR (ok__law_neighbour T) (hr.mono (by decide)) rfl T.g__law_neighbour T.k__law_neighbour (pa_cons (pv 1) (pa_cons (pv 2) (pa_cons (pe_propR (pv 3) T.c_Part T.p_Part_start (ok_Part_start T) (hr.mono (by decide))) pa_nil)))))
    (pss_cons (ps_if (pt_cmp (pc_isN (pv 4))) (pss_one (ps_ret (pe_cmpR op_eq (pe_propR (pv 3) T.c_Part T.p_Part_border (ok_Part_border T) (hr.mono (by decide))) pe_int (nomark _)))) pss_nil)
    (pss_cons (ps_set (i := 5) nd rfl (Or.inl rfl) (pe_callR (ok_repainted T) (hr.mono (by decide)) rfl T.g_repainted T.k_repainted (pa_cons (pv 0) (pa_cons (pe_propR (pv 3) T.c_Part T.p_Part_start (ok_Part_start T) (hr.mono (by decide))) (pa_cons (pe_subA T.carGet T.kf_Carpet___getitem__ (ok_Carpet___getitem__ T) (hr.mono (by decide)) (pv 0) (pe_ix ix_list (pv 4) pe_int (fun _ _ => rfl))) pa_nil)))))
    (pss_cons (ps_if (PW.pt (pw_or (pt_val (pe_callR (ok_are_joined T) (hr.mono (by decide)) rfl T.g_are_joined T.k_are_joined (pa_cons (pv 0) (pa_cons (pe_ix ix_list (pv 4) pe_int (fun _ _ => rfl)) (pa_cons (pe_ix ix_list (pv 4) pe_int (fun _ _ => rfl)) pa_nil))))) (pw_or1 (pt_not (pt_val (pe_callR (ok_are_joined T) (hr.mono (by decide)) rfl T.g_are_joined T.k_are_joined (pa_cons (pv 5) (pa_cons (pe_ix ix_list (pv 4) pe_int (fun _ _ => rfl)) (pa_cons (pe_ix ix_list (pv 4) pe_int (fun _ _ => rfl)) pa_nil))))))))) (pss_one (ps_ret pe_bl)) pss_nil)
    (pss_cons (ps_set (i := 6) nd rfl (Or.inl rfl) (pe_callR (ok_part_at T) (hr.mono (by decide)) rfl T.g_part_at T.k_part_at (pa_cons (pe_callR (ok_repainted T) (hr.mono (by decide)) rfl T.g_repainted T.k_repainted (pa_cons (pv 0) (pa_cons (pe_propR (pv 3) T.c_Part T.p_Part_start (ok_Part_start T) (hr.mono (by decide))) (pa_cons pe_str pa_nil)))) (pa_cons (pe_propR (pv 3) T.c_Part T.p_Part_start (ok_Part_start T) (hr.mono (by decide))) pa_nil))))
    (pss_cons (ps_set (i := 7) nd rfl (Or.inl rfl) (pe_callB (call_lenA T.carLen (ok_Carpet___len__ T) (hr.mono (by decide))) rfl T.b_len bo_len (pa_cons (pe_callR (ok_repainted T) (hr.mono (by decide)) rfl T.g_repainted T.k_repainted (pa_cons (pv 0) (pa_cons (pe_propR (pv 3) T.c_Part T.p_Part_start (ok_Part_start T) (hr.mono (by decide))) (pa_cons pe_str pa_nil)))) pa_nil)))
    (pss_cons (ps_if (PW.pt (pw_or (pt_cmpR op_ne (pe_op op_mul (pe_propR (pv 6) T.c_Part T.p_Part_places (ok_Part_places T) (hr.mono (by decide))) (pe_callB (call_lenA T.carLen (ok_Carpet___len__ T) (hr.mono (by decide))) rfl T.b_len bo_len (pa_cons (pv 0) pa_nil))) (pe_op op_mul (pe_propR (pv 3) T.c_Part T.p_Part_places (ok_Part_places T) (hr.mono (by decide))) (pv 7)) (nomark _)) (pw_or1 (pt_cmpR op_ne (pe_op op_mul (pe_propR (pv 6) T.c_Part T.p_Part_border (ok_Part_border T) (hr.mono (by decide))) (pe_callB (call_lenA T.carLen (ok_Carpet___len__ T) (hr.mono (by decide))) rfl T.b_len bo_len (pa_cons (pv 0) pa_nil))) (pe_op op_mul (pe_propR (pv 3) T.c_Part T.p_Part_border (ok_Part_border T) (hr.mono (by decide))) (pv 7)) (nomark _))))) (pss_one (ps_ret pe_bl)) pss_nil)
    (pss_one (ps_ret (pe_and (pe_cmpR op_eq (pe_propR (pv 6) T.c_Part T.p_Part_colour (ok_Part_colour T) (hr.mono (by decide))) pe_str (nomark _)) (pe_one (pe_cmpR op_eq (pe_cmp (pc_isN (pe_propR (pv 6) T.c_Part T.p_Part_size (ok_Part_size T) (hr.mono (by decide))))) (pe_cmp (pc_isN (pe_propR (pv 3) T.c_Part T.p_Part_size (ok_Part_size T) (hr.mono (by decide))))) (nomark _))))))))))))), ?_⟩
  try dsimp only [cxOf]
  obtain ⟨o, t, C, n, L, v, d, rfl, hC, hc, ht, ex, hL, hd, pd, q⟩ := h
  obtain ⟨x, b, kp, kvp, rfl, g1, _, g2, g3, g4⟩ := id pd
  obtain ⟨dxp, bs, g5, g6⟩ := id g4
  obtain ⟨dxo, nto, ho, hno, _⟩ := id hc
  have ok := ex.tok
  have hsl := sizeLine_eq
  have hsm := ok.small
  have hlow : low n d.p0 = d.p0 := low_self ok.net hd.cell
  have hnew : ∀ p, colr n L p ≠ 109 := fun p => (abc_let (hL _ (colr_mem ok p))).2.1
  tm_at "sx"
  refine ⟨x, dxp, _, rfl, g5, x, _, b, kp, _, d.bas, _, rfl, g4, ?_⟩
  tm_at "sx"
  refine ⟨t, b, n, L, d.p0, rfl, ht, ok, g1, hd.cell, fun H1 s1 hz => ?_, fun l u v bu bv H1 s1 e1 eu ev hcon hnb hcol => ?_⟩
  · tm_at "sx"
    refine ⟨true, rfl, w_tt ?_⟩
    tm_at "sx"
    refine ⟨x, dxp, _, rfl, s1 _ _ g5, x, _, b, kp, _, d.bas, _, rfl, g4.up s1, ?_⟩
    tm_at "sx"
    have hb : d.b = 0 := by
      rw [hd.df.border ok.net, sum_zero]
      intro y hy
      obtain ⟨k, hk, rfl⟩ := List.mem_map.mp hy
      have l := (hd.df.key ok.net hk).2
      exact hz k ((hd.df.mem ok.net k).mp (by rw [l]; exact hk))
    rw [hb]
    exact q _ s1
  · tm_at "sx"
    refine ⟨false, rfl, w_ff ?_⟩
    tm_at "sx"
    refine ⟨x, dxp, _, rfl, s1 _ _ g5, x, _, b, kp, _, d.bas, _, rfl, g4.up s1, ?_⟩
    tm_at "sx"
    refine ⟨o, C, dxo, _, rfl, hC, s1 _ _ ho, o, bv, C, n, L, v, rfl, hC, hc.up s1, ev, fun H2 s2 => ?_⟩
    tm_at "sx"
    have s02 := Same.trans s1 s2
    refine ⟨o, b, C, n, L, d.p0, colr n L v, rfl, hC, hc.up s02, s02 _ _ g1, (abc_let (hL _ (colr_mem ok v))).1, fun x3 m3 d3 H3 s3 hd3 hp3 cv3 hk3 => ?_⟩
    tm_at "sx"
    have s03 := Same.trans s02 s3
    have s13 : Same H1 H3 := Same.trans s2 s3
    have e13 := s13 _ _ e1
    tm_at "sx"
    refine ⟨o, bu, bv, C, n, L, u, v, false, rfl, hC, hc.up s03, s13 _ _ eu, s13 _ _ ev, join_no ok.net (fun z => hcol z.symm), fun H4 s4 => ?_⟩
    refine ⟨false, rfl, w_ff ?_⟩
    tm_at "sx"
    have s14 : Same H1 H4 := Same.trans s13 s4
    have e14 := s14 _ _ e1
    tm_at "sx"
    have m3ok : NOk m3 := by obtain ⟨_, _, _, _, h⟩ := cv3; exact h.net
    have hjoin : colr m3 (reText n (paintL n L (d3.M.map (·.1)) (colr n L v)) m3) v = colr m3 (reText n (paintL n L (d3.M.map (·.1)) (colr n L v)) m3) u := by
      rw [re_colr ok.net m3ok hk3, re_colr ok.net m3ok hk3]
      have hx := hd3.cls ok.net hp3
      have hu := hx.trans ok.net.nv (per ok.net L) (Cl.of hcon)
      rw [paint_in hd3 ok.net _ hu]
      refine paint_out hd3 ok.net _ fun z => hcol ?_
      rw [z.col ok.net.nv (per ok.net L), hu.col ok.net.nv (per ok.net L)]
    refine ⟨x3, bu, bv, _, m3, _, u, v, true, rfl, .inr rfl, cv3.up s4, s14 _ _ eu, s14 _ _ ev, join_yes m3ok hnb hjoin, fun H5 s5 => ?_⟩
    refine ⟨true, rfl, w_ff ?_⟩
    tm_at "sx"
    have s35 : Same H3 H5 := Same.trans s4 s5
    have s05 := Same.trans s03 s35
    clear s14 e14 s13 e13 e1 eu ev
    refine ⟨x, dxp, _, rfl, s05 _ _ g5, x, _, b, kp, _, d.bas, _, rfl, g4.up s05, ?_⟩
    tm_at "sx"
    refine ⟨o, b, C, n, L, d.p0, 109, by rw [m_str], hC, hc.up s05, s05 _ _ g1, by decide, fun x6 m6 d6 H6 s6 hd6 hp6 cv6 hk6 => ?_⟩
    have ep : ∀ {e : PD}, PDok n L e → low n d.p0 ∈ e.M.map (·.1) → paintL n L (e.M.map (·.1)) 109 = paintL n L (d.M.map (·.1)) 109 := fun {e} he hp => paint_same (fun k => (keys_same ok.net hd he hp k).symm) 109
    rw [ep hd6 hp6] at cv6 hk6
    have m6ok : NOk m6 := by obtain ⟨_, _, _, _, h⟩ := cv6; exact h.net
    obtain ⟨rfl, e6⟩ := exact_same (new_exact ok.net hd hnew ex) m6ok hk6
    rw [e6] at cv6
    tm_at "sx"
    have s06 := Same.trans s05 s6
    refine ⟨x, dxp, _, rfl, s06 _ _ g5, x, _, b, kp, _, d.bas, _, rfl, g4.up s06, ?_⟩
    tm_at "sx"
    refine ⟨x6, b, _, m6, _, d.p0, rfl, .inr rfl, cv6, s06 _ _ g1, fun v7 d7 H7 s7 hd7 hp7 pd7 => ?_⟩
    obtain ⟨n1, n2, n3, n4⟩ := new_part ok.net hd hnew hd7 hp7
    tm_at "sx"
    have s07 := Same.trans s06 s7
    refine ⟨x, dxp, _, rfl, s07 _ _ g5, x, _, b, kp, _, d.bas, _, rfl, g4.up s07, ?_⟩
    tm_at "sx"
    refine ⟨o, b, C, m6, L, d.p0, 109, by rw [m_str], hC, hc.up s07, s07 _ _ g1, by decide, fun x8 m8 d8 H8 s8 hd8 hp8 cv8 hk8 => ?_⟩
    rw [ep hd8 hp8] at cv8 hk8
    have m8ok : NOk m8 := by obtain ⟨_, _, _, _, h⟩ := cv8; exact h.net
    obtain ⟨rfl, e8⟩ := exact_same (new_exact ok.net hd hnew ex) m8ok hk8
    rw [e8] at cv8
    have hlen : (paintL m8 L (d.M.map (·.1)) 109).length = L.length := by
      have h1 := (paint_tok ok.net L (d.M.map (·.1)) 109).len
      have h2 := ok.len
      omega
    tm_at "sx"
    obtain ⟨dx8, nt8, ho8, hn8, _⟩ := id cv8
    refine ⟨x8, _, dx8, _, rfl, .inr rfl, ho8, x8, _, m8, _, rfl, .inr rfl, cv8, ?_⟩
    refine ⟨_, rfl, Int.natCast_nonneg _, by rw [hlen]; omega, ?_⟩
    rw [hlen]
    tm_at "sx"
    have s08 := Same.trans s07 s8
    obtain ⟨x7, b7, kp7, kvp7, rfl, _, _, _, _, g47⟩ := pd7.same s8
    obtain ⟨dx7, bs7, g57, g67⟩ := id g47
    rw [n1, n2] at g47
    refine ⟨x7, dx7, _, rfl, g57, x7, _, b7, kp7, _, d7.bas, _, rfl, g47, ?_⟩
    tm_at "sx"
    have hlenM : ∀ (H' : Hp) (Q' : VK), Same H8 H' → Q' (.int L.length) H' → rLenA (CarC K) (sp_Carpet___len__ K) [.ref o] H' Q' := fun H' Q' s hq =>
      ⟨o, C, dxo, _, rfl, hC, s _ _ (s08 _ _ ho), o, C, m8, L, rfl, hC, (hc.up s08).up s, _, rfl, Int.natCast_nonneg _, by omega, hq⟩
    refine hlenM H8 _ (Same.refl _) ?_
    refine w_iC (.inr ⟨by omega, by omega⟩) ?_
    tm_at "sx"
    refine ⟨x, dxp, _, rfl, s08 _ _ g5, x, _, b, kp, _, d.bas, _, rfl, g4.up s08, ?_⟩
    tm_at "sx"
    refine w_iC (.inr ⟨by omega, by omega⟩) ?_
    tm_at "sx"
    refine ⟨_, rfl, ?_⟩
    rw [decide_eq_true rfl]
    refine w_ff ?_
    tm_at "sx"
    refine ⟨x7, dx7, _, rfl, g57, x7, _, b7, kp7, _, d7.bas, _, rfl, g47, ?_⟩
    tm_at "sx"
    refine hlenM H8 _ (Same.refl _) ?_
    refine w_iC (.inr ⟨by omega, by omega⟩) ?_
    tm_at "sx"
    refine ⟨x, dxp, _, rfl, s08 _ _ g5, x, _, b, kp, _, d.bas, _, rfl, g4.up s08, ?_⟩
    tm_at "sx"
    refine w_iC (.inr ⟨by omega, by omega⟩) ?_
    tm_at "sx"
    refine ⟨_, rfl, ?_⟩
    rw [decide_eq_true rfl]
    refine w_ff ?_
    tm_at "sx"
    refine ⟨x7, dx7, _, rfl, g57, x7, _, b7, kp7, _, d7.bas, _, rfl, g47, ?_⟩
    tm_at "sx"
    rw [n3, m_str]
    refine ⟨_, rfl, ?_⟩
    rw [decide_eq_true rfl]
    refine w_tt ?_
    tm_at "sx"
    refine ⟨x7, dx7, _, rfl, g57, x7, _, b7, kp7, _, d7.bas, _, rfl, g47, fun H9 s9 => ?_⟩
    tm_at "sx"
    have s09 := Same.trans s08 s9
    refine ⟨x, dxp, _, rfl, s09 _ _ g5, x, _, b, kp, _, d.bas, _, rfl, g4.up s09, fun H10 s10 => ?_⟩
    tm_at "sx"
    refine ⟨rfl, ?_⟩
    have hfin : decide (V.bl (decide ((if d7.bas = [] then V.int (d.M.length : Int) else .non) = .non)) = V.bl (decide ((if d.bas = [] then V.int (d.M.length : Int) else .non) = .non))) = true := by
      refine decide_eq_true ?_
      by_cases z : d.bas = []
      · rw [if_pos z, if_pos (n4.mpr z)]
      · rw [if_neg z, if_neg (fun y => z (n4.mp y))]
    rw [hfin]
    exact q _ (Same.trans s09 s10)
end
end Cp
set_option Elab.async false
set_option linter.all false
set_option maxRecDepth 100000
set_option maxHeartbeats 2000000
/-! F38: the law. -/
namespace Cp
open PySem PySem.Spec PyProof.Rows L2
local macro_rules | `(tactic| tm_at "fact") => `(tactic| first
  | assumption
  | (apply Same.up; · assumption
     tm_at "fact")
  | (apply Same.upS; · assumption
     tm_at "fact")
  | (apply Same.upL; · assumption
     tm_at "fact")
  | (apply sq_of; tm_at "fact")
  | (apply sl_of; tm_at "fact")
  | (apply Chg.up; · assumption
     · tm_at "fact"
     · exact fun z => nomatch z)
  | (apply Chg.upS; · assumption
     · tm_at "fact"
     · exact fun _ z => nomatch z
     · exact fun _ _ z => nomatch z))
local macro_rules | `(tactic| tm_at "same") => `(tactic| first
  | assumption
  | exact Same.refl _
  | (refine Same.trans ?_ ?_; rotate_left; · assumption
     tm_at "same"))
local macro_rules | `(tactic| tm_at "sx1") => `(tactic| with_reducible first
  | refine w_var rfl ?_
  | refine w_c ?_
  | refine w_op ?_
  | refine w_seq ?_
  | refine w_asg ?_
  | refine w_gname ?_
  | refine w_ret ?_
  | refine w_nil ?_
  | refine w_cons ?_
  | refine w_tup ?_
  | refine w_lst ?_
  | refine w_cb ?_
  | refine w_callR ?_
  | refine w_i0 ?_
  | refine w_gcons ?_
  | refine w_gnil ?_
  | refine w_test ?_
  | refine w_not ?_
  | refine w_ifs ?_
  | refine w_if ?_
  | refine w_expr ?_
  | refine w_eqI ?_
  | refine w_neI ?_
  | refine w_eqS ?_
  | refine w_neS ?_
  | refine w_or ?_
  | refine w_and ?_
  | refine w_par3 ?_
  | refine w_andV ?_
  | refine w_notV ?_
  | refine w_lcS ?_
  | refine w_forE ?_
  | refine w_m1 ?_
  | refine w_forL ?_
  | refine w_forR1 ?_
  | refine w_isN ?_
  | refine w_notN ?_
  | refine w_fld ?_
  | refine w_methR ?_
  | refine w_propR ?_
  | refine w_propA ?_
  | refine w_methA ?_
  | refine w_subA ?_
  | refine w_makeS ?_
  | refine w_fldS ?_
  | refine w_chain ?_
  | refine w_orV ?_
  | refine w_next ?_
  | refine w_tB ?_
  | refine w_lcL ?_
  | refine w_lcT ?_
  | refine w_lcR1 ?_
  | refine w_lcR1W ?_
  | refine w_turnW ?_
  | refine w_sl ?_
  | refine w_part ?_
  | refine w_nopart ?_
  | refine w_lcR2 ?_
  | refine w_turn ?_
  | refine w_yes ?_
  | refine w_par ?_
  | refine w_uI ?_
  | refine w_un ?_
  | refine w_one ?_)
local macro_rules | `(tactic| tm_at "at") => `(tactic| first | exact rfl | exact atI_nat rfl)
local macro_rules | `(tactic| tm_at "ix") => `(tactic| first
  | (with_reducible apply w_ixT; · tm_at "fact"
     · tm_at "at")
  | (with_reducible apply w_ixL; · tm_at "fact"
     · tm_at "at")
  | (with_reducible apply w_gtup; · tm_at "fact"
     · exact rfl))
local macro_rules | `(tactic| tm_at "sx") => `(tactic| repeat (first | tm_at "sx1" | tm_at "ix"))
theorem kp_same {T : Addr} {H0 H H' : Hp} (n : H0 T = none) (s : Same H0 H) (k : Kp T H H') : Same H0 H' := fun b u e => k b u (fun z => by subst z; rw [n] at e; cases e) (s _ _ e)
theorem keys_step {ds : List PD} {i : Nat} {d : PD} (h : ds[i]? = some d) : keysOf (ds.take (i + 1)) = keysOf (ds.take i) ++ d.M.map (·.1) := by
  unfold keysOf
  rw [List.take_add_one, h, List.flatMap_append]; simp
section
variable {P : Program} {w : World} {K : PySem.W.Frag} {mg : Str → Option Value} {base : Heap}
def sp_law (K : PySem.W.Frag) : Sp := fun vs H Q _ => ∃ (s : Addr) (ys : List V), vs = [.ref s] ∧ SqL K H s ys ∧ (∀ v ∈ ys, ∃ i, v = V.int i) ∧ ∀ H', Same H H' → Q (.bl true) H'
theorem okf_law (T : Tx K mg) {fd : FuncData} (F : FunD K "law" "law" (defArgs slaw) (defBody slaw) (defScope slaw) [] [] (He.ga K "law") fd) : FnOk P w K mg base CX0 11 (He.ga K "law") fd Plaw (sp_law K) := by
  refine F.ok sc_law (fun vs H Q E h => by obtain ⟨_, _, rfl, _⟩ := h; rfl) (fun cdv A outer s0 H vs Q E hr h => ?_)
  have nd := sc_law.nd
  refine (fun ⟨t, h, q⟩ => ⟨t, PSs.nox h, q⟩ : (∃ t, PSs (cxOf CX0 P w K mg base Nlaw _ (defScope slaw) _ cdv A outer s0 H E).nox (defBody slaw) t ∧ t { nx := fun _ H' => Q .non H', rt := Q } (start Nlaw vs) H) → _) ?_
  refine ⟨_, (pss_cons (ps_set (i := 1) nd rfl (Or.inl rfl) (pe_callR (ok__law_tape T) (hr.mono (by decide)) rfl T.g__law_tape T.k__law_tape (pa_cons (pv 0) pa_nil)))
    (pss_cons (ps_for PassesOwn.never rfl (pi_range1 rfl T.b_range (pa_cons pe_int pa_nil)) (pg_name (i := 2) nd rfl (Or.inl rfl)) (pss_cons (ps_asg (pe_callR (ok__law_least T) (hr.mono (by decide)) rfl T.g__law_least T.k__law_least (pa_cons (pv 1) (pa_cons pe_int pa_nil))) (pg_tup rfl (pgs_cons (pg_name (i := 3) nd rfl (Or.inl rfl)) (pgs_cons (pg_name (i := 4) nd rfl (Or.inl rfl)) pgs_nil))))
    (pss_cons (ps_set (i := 5) nd rfl (Or.inl rfl) (pe_callR (ok__law_made T) (hr.mono (by decide)) rfl T.g__law_made T.k__law_made (pa_cons (pv 1) (pa_cons (pv 3) (pa_cons (pv 4) pa_nil)))))
    (pss_cons (ps_if (pt_not (pt_val (pe_callR (ok__law_borders_right T) (hr.mono (by decide)) rfl T.g__law_borders_right T.k__law_borders_right (pa_cons (pv 5) (pa_cons (pv 3) (pa_cons (pv 4) pa_nil)))))) (pss_one (ps_ret pe_bl)) pss_nil)
    (pss_cons (ps_set (i := 6) nd rfl (Or.inl rfl) (pv 5))
    (pss_cons (ps_for PassesOwn.never rfl (pi_list (pe_callR (ok_parts T) (hr.mono (by decide)) rfl T.g_parts T.k_parts (pa_cons (pv 5) pa_nil))) (pg_name (i := 7) nd rfl (Or.inl rfl)) (pss_cons (ps_if (pt_not (pt_val (pe_callR (ok__law_joins T) (hr.mono (by decide)) rfl T.g__law_joins T.k__law_joins (pa_cons (pv 5) (pa_cons (pv 3) (pa_cons (pv 4) (pa_cons (pv 7) pa_nil))))))) (pss_one (ps_ret pe_bl)) pss_nil)
    (pss_one (ps_set (i := 6) nd rfl (Or.inl rfl) (pe_ifExp (pt_cmpR op_ne (pe_subA T.carGet T.kf_Carpet___getitem__ (ok_Carpet___getitem__ T) (hr.mono (by decide)) (pv 6) (pe_propR (pv 7) T.c_Part T.p_Part_start (ok_Part_start T) (hr.mono (by decide)))) pe_str (nomark _)) (pe_callR (ok_repainted T) (hr.mono (by decide)) rfl T.g_repainted T.k_repainted (pa_cons (pv 6) (pa_cons (pe_propR (pv 7) T.c_Part T.p_Part_start (ok_Part_start T) (hr.mono (by decide))) (pa_cons pe_str pa_nil)))) (pv 6))))))
    (pss_one (ps_if (pt_cmpR (op_neO T.x_Woven__eq__ T.ne_Woven T.mo_Woven (ok_Carpet___eq__ T) (hr.mono (by decide))) (pv 6) (ClX.pe_cmeth (pe_glob (v := .ref _) rfl T.g_Carpet rfl) T.cr_Carpet T.m_Carpet_plain (ok_Carpet_plain T) (hr.mono (by decide)) pass0 (pa_cons pe_str pa_nil)) (nomark _)) (pss_one (ps_ret pe_bl)) pss_nil))))))))
    (pss_one (ps_ret pe_bl)))), ?_⟩
  try dsimp only [cxOf]
  obtain ⟨s, ys, rfl, hs, hy, q⟩ := h
  have hsl := sizeLine_eq
  tm_at "sx"
  refine ⟨s, ys, rfl, hs, hy, fun T0 l H1 nT s1 t1 => ?_⟩
  tm_at "sx"
  refine ⟨2, rfl, by decide, by decide, ?_⟩
  refine for_range (fun i σ H' => (∃ o2 o3 o4 o5 o6 o7 : Option V, σ = [some (.ref s), some (.ref T0), o2, o3, o4, o5, o6, o7]) ∧ Same H H' ∧ TapeV H' T0 l)
    ⟨⟨none, none, none, none, none, none, rfl⟩, s1, t1⟩ (fun i σ H2 hi hI => ?_) (fun σ H2 hI => ?_)
  · obtain ⟨⟨o2, o3, o4, o5, o6, o7, rfl⟩, s2, t2⟩ := hI
    tm_at "sx"
    refine ⟨T0, l, rfl, t2, fun u N X H3 k3 t3 hv ex hz hX => ?_⟩
    obtain ⟨a, hu, ha⟩ := hv
    have s3 := kp_same nT s2 k3
    tm_at "sx"
    have hXL : ∀ c ∈ X, c ∈ LET := fun c hc => (abc_let (hX c hc)).1
    refine ⟨T0, l, a, N, X, rfl, t3, ha, ex, hz, hXL, fun o C H4 k4 t4 hC cv => ?_⟩
    have s4 := kp_same nT s3 k4
    have ha4 := k4.up t3 ha (fun _ z => nomatch z)
    tm_at "sx"
    refine ⟨o, a, C, N, X, rfl, hC, cv, ha4, hXL, fun H5 s45 => ?_⟩
    refine ⟨true, rfl, w_ff ?_⟩
    tm_at "sx"
    have cv5 := cv.up s45
    have ha5 := s45 _ _ ha4
    have t5 := t4.same s45
    have s5 := Same.trans s4 s45
    refine ⟨o, C, N, X, rfl, hC, cv5, fun pl us ds H6 npl s56 e6 pds pok cov => ?_⟩
    have t6 := t5.same s56
    have s6 := Same.trans s5 s56
    have cv6 := cv5.up s56
    have ha6 := s56 _ _ ha5
    have hul : us.length = ds.length := Paired.length pds
    have hnew : ∀ p, colr N X p ≠ 107 := fun p => (abc_let (hX _ (colr_mem ex.tok p))).2.2
    refine ⟨pl, rfl, ⟨us, sl_of e6⟩, ?_⟩
    refine for_list (xs := us) (fun j σ H' => ∃ (fo Cf : Addr) (m : T3) (Y : List Nat) (o7 : Option V), σ = [some (.ref s), some (.ref T0), some (.int (0 + (i : Int))), some (.ref a), some (.str (txt X)), some (.ref o), some (.ref fo), o7] ∧ Same H6 H' ∧ CarC K Cf ∧ CarV K H' fo Cf m Y ∧ Painted N X 107 (keysOf (ds.take j)) m Y ∧ (j = 0 → m = N ∧ Y = X) ∧ (1 ≤ j → Cf = He.ga K "Woven"))
      ⟨o, C, N, X, _, rfl, Same.refl _, hC, cv6, Painted.start 107 ex, fun _ => ⟨rfl, rfl⟩, fun h => by omega⟩ (fun j σ H' _ hJ => ?_) (fun j x σ H7 hx hJ => ?_) (fun σ H7 hJ => ?_)
    · obtain ⟨_, _, _, _, _, _, sj, _⟩ := hJ
      exact Same.upL sj (sl_of e6)
    · obtain ⟨fo, Cf, m, Y, o7, rfl, s67, hCf, cvf, hp, hj0, hj1⟩ := hJ
      obtain ⟨d, hdi, pd⟩ := pds.at hx
      have hd := pok.all d (List.mem_of_getElem? hdi)
      tm_at "sx"
      refine ⟨o, a, C, N, X, x, d, rfl, hC, cv6.up s67, s67 _ _ ha6, ex, hX, hd, pd.same s67, fun H8 s78 => ?_⟩
      refine ⟨true, rfl, w_ff ?_⟩
      tm_at "sx"
      have s68 := Same.trans s67 s78
      obtain ⟨xx, b, kp, kvp, rfl, g1, _, g2, g3, g4⟩ := pd.same s68
      obtain ⟨dxp, bs, g5, g6⟩ := id g4
      have cvf8 := cvf.up s78
      obtain ⟨dxf, ntf, hof, hnf, tokf⟩ := id cvf8
      refine ⟨xx, dxp, _, rfl, g5, xx, _, b, kp, _, d.bas, _, rfl, g4, ?_⟩
      refine ⟨fo, Cf, dxf, _, rfl, hCf, hof, fo, b, Cf, m, Y, d.p0, rfl, hCf, cvf8, g1, fun H9 s89 => ?_⟩
      tm_at "sx"
      rw [k_str]
      refine ⟨_, rfl, ?_⟩
      have s69 := Same.trans s68 s89
      by_cases he : colr m Y d.p0 = 107
      · rw [decide_eq_true (one1_inj.mpr he)]
        refine w_ff ?_
        tm_at "sx"
        refine ⟨fo, Cf, m, Y, _, rfl, s69, hCf, cvf8.up s89, ?_, fun h => by omega, fun _ => ?_⟩
        · rw [keys_step hdi]
          exact hp.skip ex.tok.net hd he
        · by_cases h0 : j = 0
          · obtain ⟨rfl, rfl⟩ := hj0 h0
            exact absurd he (hnew _)
          · exact hj1 (by omega)
      · rw [decide_eq_false (fun z => he (one1_inj.mp z))]
        refine w_tt ?_
        tm_at "sx"
        refine ⟨xx, dxp, _, rfl, s89 _ _ g5, xx, _, b, kp, _, d.bas, _, rfl, g4.up s89, ?_⟩
        tm_at "sx"
        refine ⟨fo, b, Cf, m, Y, d.p0, 107, rfl, hCf, cvf8.up s89, s89 _ _ g1, by decide, fun x2 m2 d2 H10 s910 hd2 hp2 cv2 hk2 => ?_⟩
        have m2ok : NOk m2 := by obtain ⟨_, _, _, _, h⟩ := cv2; exact h.net
        refine ⟨x2, _, m2, _, _, rfl, Same.trans s69 s910, .inr rfl, cv2, ?_, fun h => by omega, fun _ => rfl⟩
        rw [keys_step hdi]
        exact hp.step ex.tok.net hd hd2 hp2 m2ok hk2
    · obtain ⟨fo, Cf, m, Y, o7, rfl, s67, hCf, cvf, hp, hj0, hj1⟩ := hJ
      rw [hul, List.take_length] at hp
      have hpos : 1 ≤ us.length := by
        rw [hul]
        have h0 : (0, 0) ∈ cellL N := mem_cell.mpr ⟨by decide, by have := ex.tok.net.a1; dsimp only; omega, by decide, by have := ex.tok.net.c1; dsimp only; omega⟩
        have := cov _ h0
        cases ds with
        | nil => cases this
        | cons a r => rw [List.length_cons]; omega
      have hCw := hj1 hpos
      subst hCw
      obtain ⟨rfl, rfl⟩ := hp.fin ex.tok.net cov
      obtain ⟨dxf, ntf, hof, hnf, tokf⟩ := id cvf
      tm_at "sx"
      refine ⟨rfl, ?_⟩
      tm_at "sx"
      refine ⟨He.ga K "Carpet", 107, by rw [k_str], by decide, fun o2 m2 H8 s8 cv8 hk8 => ?_⟩
      have m2ok : NOk m2 := by obtain ⟨_, _, _, _, h⟩ := cv8; exact h.net
      obtain ⟨rfl, e8⟩ := plain_net m2ok hk8
      rw [e8] at cv8
      obtain ⟨dx8, nt8, ho8, hn8, tok8⟩ := id cv8
      refine ⟨fo, dxf, _, o2, dx8, _, rfl, rfl, s8 _ _ hof, ho8, fo, o2, (1, 0, 1), (1, 0, 1), [107], [107], rfl, cvf.up s8, cv8, _, rfl, ?_⟩
      refine ⟨_, rfl, ?_⟩
      rw [decide_eq_true (⟨rfl, rfl⟩ : ((1, 0, 1) : T3) = (1, 0, 1) ∧ ([107] : List Nat) = [107])]
      refine w_ff ?_
      tm_at "sx"
      exact ⟨⟨_, _, _, _, _, _, rfl⟩, Same.trans s6 (Same.trans s67 s8), t6.same (Same.trans s67 s8)⟩
  · obtain ⟨⟨o2, o3, o4, o5, o6, o7, rfl⟩, s2, t2⟩ := hI
    tm_at "sx"
    exact q _ s2
end
end Cp
set_option Elab.async false
set_option linter.all false
set_option maxRecDepth 100000
set_option maxHeartbeats 0
/-! H2: the end. -/
namespace Cp
open PySem PySem.Spec PyProof.Rows L2
theorem facts {P : Program} {w : World} {K : PySem.W.Frag} {h : Heap} {mg : Str → Option Value} {f : Addr} (X : K.In h) (G : h.Ns mainGlobals mg) (hfa : mg ("law" : Str) = some (.ref f)) (c : SaysC exL faL fnL K) :
    ∃ fd : FuncData, (∀ (s : Shared) (v : Value), BindsTo s fd ⟨[v], []⟩ [("_law_script", v)]) ∧ ∀ base : Heap, K.In base → base.Ns mainGlobals mg → FnOk P w K mg base CX0 11 f fd ["_law_script"] (sp_law K) := by
  have T := tx_of X G c
  obtain ⟨fd, F⟩ := T.f_law
  have e := hfa.symm.trans T.g_law
  cases e
  have b := FunD.bindsA (ps := ["_law_script"]) F fun _ _ _ _ _ _ us hl => match us, hl with | [_], _ => rfl
  exact ⟨fd, fun s v => b s [v] rfl, fun base _ _ => okf_law T F⟩
end Cp
open PySem PySem.W PySem.Calls PyProof.Rows
theorem PySem.Challenge.cw_carpets_k59_whole_parts_repainted_one_by_holds : PySem.Challenge.rw_carpets_k59_whole_parts_repainted_one_by.Holds := by
  w_on; o_law
  refine HandSHeadRun.head_any (r := OpenLaw.row PySem.Challenge.rw_carpets_k59_whole_parts_repainted_one_by) (q := Cp.qv) (H := Cp.hkC) (ob := Cp.obT) (M := 9000) (loose := Cp.looseL) (d := HandSHeadRun.topDef (OpenLaw.row PySem.Challenge.rw_carpets_k59_whole_parts_repainted_one_by).prog 84) (kwd := []) Cp.obT_eq
    (by kernel_rfl) (fun s => by kernel_rfl) Cp.runA (by kernel_rfl) (by kernel_rfl) (by kernel_rfl) (by rfl) (by first | assumption | decide +kernel) (by decide +kernel) ⟨rfl, rfl, rfl, rfl, rfl, by decide +kernel⟩ ?hw ?hc
  case hw => w_witness2
  case hc =>
    refine L2.walk_ofE (l := PySem.Challenge.rw_carpets_k59_whole_parts_repainted_one_by) (n := 63) (k := 11) (x := "_law_script") (CX := L2.CX0) rfl (by decide) (by kernel_rfl) ⟨rfl, by decide, by decide⟩ ?F (fun _ _ _ _ z => z)
    intro w mg fa h Y G hmg0
    obtain ⟨K, KX, c⟩ := Y
    have hmg : mg ("law" : PySem.Str) = some (.ref fa) := by
      have e : (HandSHeadRun.topDef (OpenLaw.row PySem.Challenge.rw_carpets_k59_whole_parts_repainted_one_by).prog 84).name = ("law" : PySem.Str) := by kernel_rfl
      rw [← e]
      exact hmg0
    obtain ⟨fd, hb, hF⟩ := Cp.facts (P := (PySem.Challenge.rw_carpets_k59_whole_parts_repainted_one_by).prog) (w := w) KX G hmg c
    refine ⟨K, fd, Cp.sp_law K, KX, hb, fun H a ns hl _ hS => ⟨a, _, rfl, hS, fun v hv => ?_, fun _ _ => rfl⟩, hF⟩
    obtain ⟨i, _, rfl⟩ := List.mem_map.mp hv
    exact ⟨i, rfl⟩
