import PyProof.Rows.All
import Wide.All
import OpenK.AllK
import Wide.FinOn
import HandS.ForMost
import HandS.WideBits
import HandS.Star
import HandS.ClsMeth
import HandS.Property
import HandS.TupAny
import HandS.IsInst
import HandS.More
import HandS.Zip
import HandS.Style
import HandS.Flow
import HandS.Walk
import HandS.Deep
import HandS.HeadEnd
import KE.GoesEnum
import KE.SortData
import KE.KStateDown
import HandS.Defaults
import HandS.Head0
import HandS.Head1
import HandS.Head2
import HandS.HeadHook1
import HandS.HeadHook2
import HandS.HeadHook3
import HandS.HeadNt
import PySem.Challenge.RW_pileports_k51_whole_wishes_are_met
set_option Elab.async false
set_option linter.all false
set_option maxRecDepth 100000
set_option maxHeartbeats 2000000
namespace Pp
open PySem PySem.Spec PyProof.Rows L2

/-! ### match over a text -/
structure PM (X : Cx) (cs : List MatchCase) (t : V → TS) : Prop where
  run : ∀ (pins : List (Addr × Obj)) (s : Shared) (σ : L2.St) (H : Hp) (D : Ends) (first : Bool) (x : V) (u : Value), Inv X pins σ H s → RelV x u → t x D σ H →
    wpAny (model X.prog X.w) X.A (matchCases cs X.env u first) (SP X pins D) X.xe s
/-- a pattern that is one of some texts -/
structure PPat (X : Cx) (p : Pattern) (zs : List Str) : Prop where
  run : ∀ (pins : List (Addr × Obj)) (s : Shared) (σ : L2.St) (H : Hp) (x : Str) (t : Tok) (Q : Option (List (Str × Value)) → Shared → Prop), Inv X pins σ H s →
    (∀ s', Inv X pins σ H s' → Q (if zs.any (fun z => decide (x = z)) = true then some [] else none) s') → wpAny (model X.prog X.w) X.A (matchPattern p X.env (.str x t)) Q X.xe s
theorem ppat_str {X : Cx} {z : Str} {k : Nat} {p1 p2 : Pos} : PPat X (.MatchValue (.Constant (.str z) k p1) p2) [z] := by
  refine ⟨fun pins s σ H x t Q I h => ?_⟩
  refine wpAny_matchPattern_Value ?_
  refine Calls.Constant_str ?_
  refine eq_str ?_
  have e : ([z].any fun w => decide (x = w)) = (x == z) := by
    rw [List.any_cons, List.any_nil, Bool.or_false]
    exact Bool.eq_iff_iff.mpr ⟨fun q => beq_iff_eq.mpr (of_decide_eq_true q), fun q => decide_eq_true (beq_iff_eq.mp q)⟩
  rw [e] at h
  refine wpAny_truthy_bool ?_
  have q := h _ (I.tok (s.toks + 1))
  cases hb : (x == z) with
  | true =>
    rw [hb] at q
    exact q
  | false =>
    rw [hb] at q
    exact q
theorem ppat_or2 {X : Cx} {a b : Pattern} {x1 x2 : Str} {pos : Pos} (ha : PPat X a [x1]) (hb : PPat X b [x2]) (hn : a.names = []) : PPat X (.MatchOr [a, b] pos) [x1, x2] := by
  refine ⟨fun pins s σ H x t Q I h => ?_⟩
  refine wpAny_matchPattern_Or (wpAny_matchFirst_cons (ha.run pins s σ H x t _ I fun s1 I1 => ?_))
  have en : namesOfAll (List.take 1 [a, b]) = [] := by
    show a.names ++ namesOfAll [] = []
    rw [hn] <;> rfl
  by_cases h1 : x = x1
  · have q := h s1 I1
    subst h1
    simp only [List.any_cons, List.any_nil, decide_true, Bool.true_or, Bool.or_false, if_true] at q ⊢
    rw [en]
    exact q
  · have f1 : ([x1].any fun z => decide (x = z)) = false := by simp [h1]
    rw [f1]
    show wpAny _ _ (matchFirst [b] X.env _) _ _ _
    refine wpAny_matchFirst_cons (hb.run pins s1 σ H x t _ I1 fun s2 I2 => ?_)
    have q := h s2 I2
    by_cases h2 : x = x2
    · subst h2
      simp only [List.any_cons, List.any_nil, decide_true, Bool.true_or, Bool.or_true, Bool.or_false, if_true] at q ⊢
      rw [en]
      exact q
    · have f2 : ([x2].any fun z => decide (x = z)) = false := by simp [h2]
      have f3 : ([x1, x2].any fun z => decide (x = z)) = false := by simp [h1, h2]
      rw [f3] at q
      rw [f2]
      exact wpAny_matchFirst_nil q
def mNil : V → TS := fun _ => tNext
def mCons (zs : List Str) (t : TS) (r : V → TS) : V → TS := fun x D σ H => ∃ z, x = .str z ∧ if zs.any (fun y => decide (z = y)) = true then t D σ H else r x D σ H
theorem pm_nil {X : Cx} : PM X [] mNil := ⟨fun pins s σ H D first x u I r h => wpAny_matchCases_nil ⟨σ, H, I, h⟩⟩
theorem pm_cons {X : Cx} {p : Pattern} {zs : List Str} {body : List Stmt} {cs : List MatchCase} {t : TS} {r : V → TS} (hp : PPat X p zs) (hb : PSs X body t) (hr : PM X cs r) : PM X (⟨p, none, body⟩ :: cs) (mCons zs t r) := by
  refine ⟨fun pins s σ H D first x u I rx h => ?_⟩
  obtain ⟨z, ex, h⟩ := h
  subst ex
  obtain ⟨tk, eu⟩ := (show ∃ t, u = Value.str z t from rx)
  subst eu
  refine wpAny_matchCases_cons (hp.run pins s σ H z tk _ I fun s1 I1 => ?_)
  cases hz : zs.any (fun y => decide (z = y)) with
  | true =>
    rw [hz] at h
    exact wpAny_assignInOrder_none (hb.run pins s1 σ H D I1 h)
  | false =>
    rw [hz] at h
    exact hr.run pins s1 σ H D false (.str z) _ I1 ⟨tk, rfl⟩ h
def tMatch (te : TE) (m : V → TS) : TS := fun D σ H => te σ H fun x H1 => m x D σ H1
theorem ps_match {X : Cx} {e : Expr} {cs : List MatchCase} {pos : Pos} {te : TE} {m : V → TS} (he : PE X e te) (hm : PM X cs m) : PS X (.Match e cs pos) (tMatch te m) := by
  refine ⟨fun pins s σ H D I h => ?_⟩
  exact wpAny_Match (thn (he.run pins s σ H _ I h) fun u s1 ⟨x, H1, I1, r1, q1⟩ => hm.run pins s1 σ H1 D true x u I1 r1 q1)

/-! ### o op p, an operator of one's own class on both sides -/
structure BinOf (K : PySem.W.Frag) (C : Addr) (m : Str) (f : Addr) : Prop where
  self : PySem.W.selfFirst K C = true
  at_ : PySem.W.findIn K (.ref C) m = some (some (.ref f))
  fn : PySem.W.isFn K (.ref f) = true
def rBinOwn (C : Addr) (sp : Sp) (E : XK) : R2 := fun x y H Q => ∃ a dx fs b dy gs, x = .ref a ∧ y = .ref b ∧ H a = some (.ins C dx fs) ∧ H b = some (.ins C dy gs) ∧ sp [x, y] H (fun v H' => (∃ c, v = .ref c) ∧ Q v H') E
theorem cmpBack_ref {Q : Value → Shared → Prop} {c : Addr} {s : Shared} (h : Q (.ref c) s) : PySem.W.CmpBack Q (.ref c) s := h
theorem op_binOwn {X : Cx} {CX : CXT} {op : Operator} {C f : Addr} {k : Nat} {sp : Sp} {E : XK} (c : BinOf X.K C (PySem.dunder op.info.2) f) (F : FnR X.prog X.w X.K X.mg X.base CX k f sp) (hr : Room k X.A) (hx : Passes CX X E) :
    OpR X (binaryOp op) (rBinOwn C sp E) := by
  intro pins s σ H x y u v Q I rx ry h
  obtain ⟨a, dx, fs, b, dy, gs, ex, ey, ha, hb, q⟩ := h
  subst ex ey
  obtain rfl : u = Value.ref a := rx
  obtain rfl : v = Value.ref b := ry
  obtain ⟨mA, O, _⟩ := ins_get I.hok ha
  obtain ⟨oda, J, _⟩ := O.look
  obtain ⟨mB, O2, _⟩ := ins_get I.hok hb
  obtain ⟨odb, J2, _⟩ := O2.look
  obtain ⟨m, F0⟩ := I.fr
  refine PySem.W.binop_K F0 I.ok.mod.kin J J2.type c.self c.at_ c.fn ?_
  refine wpAny_mono (wpAny_call (run_fnR (us := [.ref a, .ref b]) (vs := [.ref a, .ref b]) F hr hx I (.cons rfl (.cons rfl .nil)) q)) (fun w s' z => ?_) fun _ _ e => e
  obtain ⟨v', H', I', rv, ⟨c', ec⟩, q'⟩ := z
  subst ec
  obtain rfl : w = Value.ref c' := rv
  exact ⟨.ref c', H', I', rfl, q'⟩

/-! ### C.m(), m a staticmethod of the class -/
structure SMet (K : PySem.W.Frag) (C : Addr) (mc : Value) (m : Str) (p g : Addr) : Prop where
  at_ : PySem.W.findCls K (.ref C) mc m = some (.get (.builtin "staticmethod.__get__") (.ref p) .none (.ref C))
  rc : ∃ rest, PySem.W.recIn K p "staticmethod" = some (.ref g :: rest)
  kp : PySem.W.keepIn K (.ref g) = true
def tSMeth0 (C : Addr) (sp : Sp) (E : XK) (ta : TE) : TE := fun σ H Q => ta σ H fun x H1 => x = .ref C ∧ sp [] H1 Q E
theorem pe_smeth0 {X : Cx} {CX : CXT} {k : Nat} {C p g : Addr} {mc : Value} {sp : Sp} {E : XK} {o : Expr} {m : Str} {pos apos : Pos} {ta : TE} {pl : Sem Bool} (he : PE X o ta) (r : ClX.CRead X.K C mc) (c : SMet X.K C mc m p g)
    (F : FnR X.prog X.w X.K X.mg X.base CX k g sp) (hr : Room k X.A) (hx : Passes CX X E)
    (ht : eval (.Call (.Attribute o m apos) [] [] pos) X.env = (do
      let ov ← eval o X.env
      standAt apos.atName
      let (f, first) ← holding [ov] (getMethod ov m pl)
      callWith pos f first (backTo pos (starEach [] X.env)) (backToKw pos (keywordEach [] X.env))) := by rfl) : PE X (.Call (.Attribute o m apos) [] [] pos) (tSMeth0 C sp E ta) := by
  refine ⟨fun pins s σ H Q I h => ?_⟩
  refine PySem.W.methodCall_KW (pl := pl) (thn (he.run pins s σ H _ I h) fun u s1 ⟨x, H1, I1, rx, ex, q⟩ => ?_) ht
  subst ex
  obtain rfl : u = Value.ref C := rx
  obtain ⟨rest, hp⟩ := c.rc
  refine PySem.W.method_cls I1.kIn r.ga (PySem.W.cls_bind I1.kIn r.rd c.at_ (wpAny_call (PySem.W.sm_get (s := { s1 with toks := s1.toks + 1 }) I1.kIn hp (PySem.W.handed_on rfl ?_))))
  have I2 := I1.tok (s1.toks + 1)
  exact PySem.W.callWith_K0 (first := []) I2.kIn c.kp (wpAny_call (run_fnR (us := []) (vs := []) F hr hx I2 .nil q))

/-! ### C(*y): a new instance by a starred list of arguments -/
def tMakeS1 (K : PySem.W.Frag) (C : Addr) (sp : Sp) (E : XK) (te : TE) : TE := fun σ H Q => te σ H fun y H1 => ∃ a xs, y = V.ref a ∧ (SqT K H1 a xs ∨ SqL K H1 a xs) ∧ ∀ x dx, H1 x = Option.none → H1 dx = Option.none → dx ≠ x →
      sp (V.ref x :: xs) (upd (upd H1 dx (.own x)) x (.ins C dx [])) (fun v H2 => v = .non ∧ Q (.ref x) H2) E
theorem pe_makeS1 {X : Cx} {CX : CXT} {k : Nat} {f C : Addr} {sp : Sp} {E : XK} {x : Str} {e : Expr} {te : TE} {p sp_ pos : Pos} (M : Mk X.K C f) (F : FnR X.prog X.w X.K X.mg X.base CX k f sp) (hr : Room (k + 1) X.A) (hg : Gl X x) (hm : X.mg x = some (.ref C))
    (hx : Passes CX X E) (he : PE X e te) (hd : (x == ("__debug__" : Str)) = false := by decide) (hst : starEach [.Starred e sp_] X.env = [(true, eval e X.env)] := by rfl) :
    PE X (.Call (.Name x p) [.Starred e sp_] [] pos) (tMakeS1 X.K C sp E te) := by
  refine ⟨fun pins s σ H Q I h => ?_⟩
  refine wpAny_Call_Name_kw (ld_glob I hg hm ?_ hd)
  refine PySem.W.callWith_S (h₀ := X.base) I.ok.mod.kin M.kp (thn (he.run pins s σ H _ I h) fun v s1 ⟨y, H1, I1, ry, a, xs, ey, hxs, q⟩ => ?_) hst
  subst ey
  obtain rfl : v = Value.ref a := ry
  exact StX.star_any I1 hxs fun us s2 I2 rv => ⟨I2.kIn, StX.run_makeR M F hr hx I2 rv q⟩
def tMakeR0 (C : Addr) (sp : Sp) (E : XK) : TE := fun _ H Q => ∀ x dx, H x = Option.none → H dx = Option.none → dx ≠ x → sp [V.ref x] (upd (upd H dx (.own x)) x (.ins C dx [])) (fun v H2 => v = .non ∧ Q (.ref x) H2) E
theorem pe_makeR0 {X : Cx} {CX : CXT} {k : Nat} {f C : Addr} {sp : Sp} {E : XK} {x : Str} {p pos : Pos} (M : Mk X.K C f) (F : FnR X.prog X.w X.K X.mg X.base CX k f sp) (hr : Room (k + 1) X.A) (hg : Gl X x) (hm : X.mg x = some (.ref C)) (hx : Passes CX X E)
    (hdb : (x == ("__debug__" : Str)) = false := by decide) : PE X (.Call (.Name x p) [] [] pos) (tMakeR0 C sp E) := by
  refine ⟨fun pins s σ H Q I h => ?_⟩
  refine wpAny_Call_Name_kw (ld_glob I hg hm ?_ hdb)
  exact PySem.W.callWith_K0 I.kIn M.kp (StX.run_makeR (us := []) (vs := []) M F hr hx I .nil h)

/-! ### calls by positional promises -/
def tCl (sp : Sp) (t : TA) : TE := fun σ H Q => t σ H fun vs H1 => sp vs H1 Q E0
theorem c_call {X : Cx} {k : Nat} {f : Addr} {sp : Sp} {x : Str} {e : Expr} {es : List Expr} {t : TA} {p pos : Pos} (F : FnR X.prog X.w X.K X.mg X.base CX0 k f sp) (hr : Room k X.A) (hg : Gl X x) (hm : X.mg x = some (.ref f)) (hk : PySem.W.keepIn X.K (.ref f) = true)
    (ha : PA X (e :: es) t) (hdb : (x == ("__debug__" : Str)) = false := by decide) (he : starEach (e :: es) X.env = (false, eval e X.env) :: starEach es X.env := by rfl) (hpl : (backTo pos (starEach es X.env)).any (·.1) = false := by rfl) :
    PE X (.Call (.Name x p) (e :: es) [] pos) (tCl sp t) := by
  refine ⟨fun pins s σ H Q I h => ?_⟩
  refine wpAny_Call_Name_kw (ld_glob I hg hm ?_ hdb)
  refine PySem.W.callWith_K (h₀ := X.base) I.ok.mod.kin hk (thn (ha.run pos pins s σ H _ I h) fun us s1 ⟨vs, H1, I1, r, q⟩ => ⟨I1.kIn, ?_⟩) he hpl
  exact wpAny_call (run_fnR F hr pass0 I1 r q)
def tMth (C : Addr) (m : Str) (sp : Sp) (ta : TE) (t : TA) : TE := fun σ H Q => ta σ H fun x H1 => ∃ a dx fs, x = .ref a ∧ H1 a = some (.ins C dx fs) ∧ fs.lookup m = none ∧ t σ H1 fun vs H2 => sp (.ref a :: vs) H2 Q E0
theorem c_meth {X : Cx} {k : Nat} {C f : Addr} {sp : Sp} {o e : Expr} {es : List Expr} {m : Str} {apos pos : Pos} {ta : TE} {t : TA} {pl : Sem Bool} (he : PE X o ta) (c : Cls X.K C) (hm : Meth X.K C m f) (F : FnR X.prog X.w X.K X.mg X.base CX0 k f sp) (hr : Room k X.A) (ha : PA X (e :: es) t)
    (hst : starEach (e :: es) X.env = (false, eval e X.env) :: starEach es X.env := by rfl) (hpl : (backTo pos (starEach es X.env)).any (·.1) = false := by rfl)
    (ht : eval (.Call (.Attribute o m apos) (e :: es) [] pos) X.env = (do
      let ov ← eval o X.env
      standAt apos.atName
      let (f, first) ← holding [ov] (getMethod ov m pl)
      callWith pos f first (backTo pos (starEach (e :: es) X.env)) (backToKw pos (keywordEach [] X.env))) := by rfl) :
    PE X (.Call (.Attribute o m apos) (e :: es) [] pos) (tMth C m sp ta t) := by
  refine ⟨fun pins s σ H Q I h => ?_⟩
  refine PySem.W.methodCall_KW (pl := pl) (thn (he.run pins s σ H _ I h) fun u s1 ⟨x, H1, I1, rx, a, dx, fs, ex, ea, l, q⟩ => ?_) ht
  subst ex
  obtain rfl : u = Value.ref a := rx
  refine getmeth_ok I1 ea c hm l ?_
  refine PySem.W.callWith_K (first := [.ref a]) (h₀ := X.base) I.ok.mod.kin hm.kp (thn (ha.run pos pins s1 σ H1 _ I1 q) fun us s2 ⟨vs, H2, I2, r, q2⟩ => ⟨I2.kIn, ?_⟩) hst hpl
  exact wpAny_call (run_fnR (us := .ref a :: us) (vs := .ref a :: vs) F hr pass0 I2 (.cons rfl r) q2)
theorem c_meth0 {X : Cx} {k : Nat} {C f : Addr} {sp : Sp} {o : Expr} {m : Str} {apos pos : Pos} {ta : TE} {pl : Sem Bool} (he : PE X o ta) (c : Cls X.K C) (hm : Meth X.K C m f) (F : FnR X.prog X.w X.K X.mg X.base CX0 k f sp) (hr : Room k X.A)
    (ht : eval (.Call (.Attribute o m apos) [] [] pos) X.env = (do
      let ov ← eval o X.env
      standAt apos.atName
      let (f, first) ← holding [ov] (getMethod ov m pl)
      callWith pos f first (backTo pos (starEach [] X.env)) (backToKw pos (keywordEach [] X.env))) := by rfl) :
    PE X (.Call (.Attribute o m apos) [] [] pos) (tMth C m sp ta tNil) := by
  refine ⟨fun pins s σ H Q I h => ?_⟩
  refine PySem.W.methodCall_KW (pl := pl) (thn (he.run pins s σ H _ I h) fun u s1 ⟨x, H1, I1, rx, a, dx, fs, ex, ea, l, q⟩ => ?_) ht
  subst ex
  obtain rfl : u = Value.ref a := rx
  refine getmeth_ok I1 ea c hm l ?_
  exact PySem.W.callWith_K0 (first := [.ref a]) I1.kIn hm.kp (wpAny_call (run_fnR (us := [.ref a]) (vs := [.ref a]) F hr pass0 I1 (.cons rfl .nil) q))
/-- o.f, a property -/
def tPrp (C : Addr) (sp : Sp) (ta : TE) : TE := fun σ H Q => ta σ H fun x H1 => ∃ a dx fs, x = .ref a ∧ H1 a = some (.ins C dx fs) ∧ sp [.ref a] H1 Q E0
theorem c_prop {X : Cx} {k : Nat} {C p g : Addr} {sp : Sp} {e : Expr} {f : Str} {pos : Pos} {ta : TE} (he : PE X e ta) (c : Cls X.K C) (hp : PropOf X.K C f p g) (F : FnR X.prog X.w X.K X.mg X.base CX0 k g sp) (hr : Room (k + 1) X.A)
    (hab : attributeBase e f X.env (eval e X.env) = eval e X.env := by rfl) : PE X (.Attribute e f pos) (tPrp C sp ta) := by
  refine ⟨fun pins s σ H Q I0 h => ?_⟩
  refine attr_of hab (thn (he.run pins s σ H _ I0 h) fun u s1 ⟨x, H1, I, rx, a, dx, fs, ex, ea, q⟩ => ?_)
  subst ex
  obtain rfl : u = Value.ref a := rx
  obtain ⟨mA, O, _, _, _, _⟩ := ins_get I.hok ea
  obtain ⟨od, J, _⟩ := O.look
  obtain ⟨rest, hrec⟩ := hp.rec_
  have I1 := I.tok (s1.toks + 1)
  have hc : (PySem.W.clsIn X.K C).isSome = true := by
    obtain ⟨cd, hc, _⟩ := PySem.W.any_some c.hd
    rw [hc]
    rfl
  refine PySem.W.get_bind I.kIn J (PySem.W.plainGet_of (c.get f)).1 (PySem.W.findObj_data hc hp.at_ hp.get hp.tak) (PySem.W.plainGet_of (c.get f)).2 (wpAny_call (PySem.W.prop_get (s := { s1 with toks := s1.toks + 1 }) I.kIn hrec ?_))
  refine codeAny_mono (F X.A.in1 X.stack { s1 with toks := s1.toks + 1 } H1 [.ref a] [.ref a] Q E0 hr.in1 I1.env0.in1 (.cons rfl .nil) q) fun r s' hq => ?_
  cases r with
  | error er => exact False.elim hq
  | ok fl =>
    cases fl with
    | ret u =>
      obtain ⟨v, H', I3, rv, q3⟩ := I1.after hq
      show wpAny _ _ (handedOut u) _ _ _
      rw [PySem.W.handedOut_of (handed_of rv)]
      exact wpAny_pure ⟨v, H', I3, rv, q3⟩
    | next => exact False.elim hq
    | brk => exact False.elim hq
    | cont => exact False.elim hq

/-! ### divmod by a divisor below 0 -/
theorem call_divmodN {X : Cx} : CallR X (.builtin "divmod") (fun xs H Q => ∃ i j, xs = [.int i, .int j] ∧ CDivN i j ∧ ∀ p, H p = none → Q (.ref p) (upd H p (.tup [.int (i.fdiv j), .int (i.fmod j)]))) := by
  intro pins s σ H xs us Q I r h
  obtain ⟨i, j, rfl, ⟨h1, h2⟩, q⟩ := h
  obtain ⟨u, w', rfl, ⟨t, rfl⟩, ⟨t', rfl⟩⟩ := vals2 r
  refine divmod_int h1 ?_ (.inl (PyProof.noPylong_small h2))
  have hn : H s.heap.objs.size = none := I.hok.fresh (Nat.le_refl _)
  refine ⟨.ref s.heap.objs.size, _, ?_, rfl, q _ hn⟩
  refine I.laid (fun b o e => Heap.get?_push_of_some _ e) (Nat.le_refl _) ⟨by simp only [List.length_cons, List.length_nil]; rw [sizeLine_eq]; decide, [.int (i.fdiv j) s.toks, .int (i.fmod j) (s.toks + 1)], .cons ⟨_, rfl⟩ (.cons ⟨_, rfl⟩ .nil), ?_⟩
  exact ⟨_, Heap.get?_push_size s.heap rfl, rfl, 0, rfl⟩

/-! ### enumerate(tuple) -/
/-- the tuple at a as it stands at each turn, each item in a new pair -/
def IteT (K : PySem.W.Frag) (a : Addr) : It :=
  ⟨fun i H => ∃ (xs : List V) (x : V), SqT K H a xs ∧ xs[i]? = some x, fun i H v H' => ∃ T x, v = .ref T ∧ H T = none ∧ H' = upd H T (.tup [.int (i : Nat), x]) ∧ ∀ xs, SqT K H a xs → xs[i]? = some x, fun i H => ∃ xs : List V, SqT K H a xs ∧ xs.length ≤ i⟩
theorem in1_hd {A : Around} (h : A.handled = none) : A.in1.handled = none := h
theorem tupit_ne {h : Heap} {it a : Addr} {i : Nat} {its : Array Value} (h1 : h.IsTupleIter it a i) (h2 : h.IsTuple a its) : a ≠ it := by
  intro e
  obtain ⟨o1, e1, c1, _⟩ := h1
  obtain ⟨o2, e2, c2, _⟩ := h2
  rw [e, e1] at e2
  cases e2
  rw [c1] at c2
  injection c2 with c3
  exact absurd c3 (by decide)
theorem enum_tup_end {prog : Program} {w : World} {A : Around} {E : Value → Shared → Prop} {s : Shared} {e it a : Addr} {items : Array Value} {n : Nat} {i : Int} {old : Value} {Q : Option Value → Shared → Prop} (hh : A.handled = none)
    (he : IsEnum s.heap e it i old) (hit : s.heap.IsTupleIter it a n) (ht : s.heap.IsTuple a items) (hx : items[n]? = none)
    (hQ : ∀ h', Heap.ExtBut it s.heap h' → Q none { s with heap := h' }) : wpAny (model prog w) A (pyNext (.ref e)) Q E s := by
  have hT : s.TypeIs (.ref e) "enumerate" := ⟨_, he, rfl⟩
  unfold pyNext
  refine wpAny_bind (wpAny_attempt (wpAny_callSpecial?_slot (name := Str.ofString "__next__") hT F.slot_enumerate_next
    (wpAny_call_entry F.slot_enumerate_next hT F.entry_enumerate_next ?_ (F.args_enumerate_next_1 _))))
  show wpAny _ _ (field (.ref e) 2 >>= _) _ _ _
  refine wpAny_bind (wpAny_field he rfl (x := .ref it) rfl ?_)
  refine wpAny_bind (wpAny_nextOf_tuple_end (A := A.in1) (in1_hd hh) hit ht hx fun h' x he' hx' => ?_)
  obtain ⟨o, ho, hc⟩ := hx'
  refine wpAny_bind (wpAny_isInstance (T := "StopIteration") (b := true) ⟨o, ho, hc⟩ isSubtype_stop ?_)
  exact wpAny_pure (hQ _ he')
theorem turn_enumT {P : Program} {w : World} {K : PySem.W.Frag} {elts : List Expr} {kk : Nat} {tpos : Pos} (a e it : Addr) (hea : e ≠ a) :
    Turn P w K (.Tuple elts kk tpos) (IteT K a) [e, it] e (fun i h => (∃ old, IsEnum h e it ((i : Nat) : Int) old) ∧ h.IsTupleIter it a i ∧ e ≠ it) where
  mem := by simp
  obj := fun i h st b hb => by
    obtain ⟨⟨old, he⟩, ⟨o, ho, hc, hd⟩, _⟩ := st
    have e' : b = e ∨ b = it := by simpa using hb
    rcases e' with z | z
    · rw [z]; exact ⟨_, he, fun v q => nomatch q⟩
    · rw [z]; exact ⟨o, ho, fun v q => by rw [hd] at q; cases q⟩
  keep := fun i h h' st k => let ⟨⟨old, he⟩, hi, hne⟩ := st; ⟨⟨old, k e (by simp) _ he⟩, hi.at fun o q => k it (by simp) o q, hne⟩
  item := by
    intro X hP hw hK hc i pins s σ H E I hf st hg
    subst hP hw hK
    obtain ⟨⟨old, he⟩, hit, hne⟩ := st
    obtain ⟨xs, x, hq, hx⟩ := hg
    obtain ⟨its, rv, p, hz⟩ := I.tuple hq
    have p' : s.heap.IsTuple a its.toArray := p
    obtain ⟨u, hu, ru⟩ := rv.get hx
    have hel : e < s.heap.objs.size := Heap.lt_size he
    have hil : it < s.heap.objs.size := by obtain ⟨_, q, _⟩ := hit; exact Heap.lt_size q
    have hli : i < its.toArray.size := by
      have := (List.getElem?_eq_some_iff.mp hu).1
      simpa using this
    have hai := tupit_ne hit p'
    refine wpAny_pyNext_enum_itemC (Draws.tuple (in1_hd (I.ok.hd hc)) it a hai its.toArray) he ⟨hit, p'⟩ hli hne (by simp [hne, hea]) fun x' h' tk hx' ho hst' hT hsz hk => ?_
    have exu : x' = u := by
      have : its.toArray[i]? = some u := by simpa using hu
      rw [this] at hx'
      exact (Option.some.inj hx').symm
    subst exu
    refine ⟨_, rfl, wpAny_letOwnedTupleGo_enum (s := { s with heap := h', toks := tk + 1 }) ho fun h'' he' sb => ?_⟩
    have hT2 : h''.get? s.heap.objs.size = some { cls := .type "tuple", data := .seq #[.int i tk, x'] } := (sb.2 _ (Nat.ne_of_gt hel)).trans hT
    have new : ObjOk X.prog X.w (upd H s.heap.objs.size (.tup [.int (i : Nat), x])) h'' s.heap.objs.size (.tup [.int (i : Nat), x]) :=
      ⟨by show 2 ≤ sizeLine; decide, [.int i tk, x'], .cons ⟨_, rfl⟩ (.cons ru .nil), ⟨_, hT2, rfl, _, rfl⟩⟩
    have I1 : Inv X pins σ (upd H s.heap.objs.size (.tup [.int (i : Nat), x])) { s with heap := h'', toks := tk + 1 } :=
      I.turnedNew (ch := [e, it]) (fun b ob hb q => (sb.2 b (fun z => hb (by simp [z]))).trans (hk b ob (fun z => hb (by simp [z])) (fun z => hb (by simp [z])) q)) hf (Nat.le_refl _) new
    refine ⟨.ref s.heap.objs.size, _, I1, rfl, ⟨_, x, rfl, I.hok.fresh (Nat.le_refl _), rfl, fun ys hy => by rw [I.tuple_inj hy hq]; exact hx⟩, ⟨⟨x', ?_⟩, hst'.1.at fun o q => (sb.2 it (Ne.symm hne)).trans q, hne⟩, fun b hb => ?_⟩
    · have e1 : ((i + 1 : Nat) : Int) = (i : Int) + 1 := by omega
      rw [e1]; exact he'
    · have hb' : b < s.heap.objs.size := by
        have e' : b = e ∨ b = it := by simpa using hb
        rcases e' with z | z
        · rw [z]; exact hel
        · rw [z]; exact hil
      rw [upd_ne (Nat.ne_of_lt hb')]
      exact (hf b hb).1
  done := by
    intro X hP hw hK hc i pins s σ H E I hf st hg
    subst hP hw hK
    obtain ⟨⟨old, he⟩, hit, hne⟩ := st
    obtain ⟨xs, hq, hx⟩ := hg
    obtain ⟨its, rv, p, hz⟩ := I.tuple hq
    have p' : s.heap.IsTuple a its.toArray := p
    obtain ⟨f0, f1, f2, f3, f4, f5⟩ := hf it (by simp)
    have hl := rv.length
    exact enum_tup_end (I.ok.hd hc) he hit p' (by simp; omega) fun h' eb => ⟨rfl, I.turned (t' := s.toks) (fun b o hb q => eb b o hb q) f0 f1 f3 f4 f5⟩
  self := fun A i s Q E st h => let ⟨⟨_, he⟩, _⟩ := st; wpAny_pyIter_enum he h
set_option maxHeartbeats 1000000 in
theorem meets_enumerate_newB1 {v : Value} {o : Obj} {H : Heap → Prop} (B : Begins v o H) :
    Meets (Builtin.«enumerate.__new__» ⟨[.type "enumerate", v], []⟩) (fun _ R s => H s.heap ∧
      R (.ok (.ret (.ref (s.heap.push o).objs.size))) { s with heap := (s.heap.push o).push { cls := .type "enumerate", data := .fields #[.none, .bool false, .ref s.heap.objs.size, rawInt 0, .none, .none] } }) :=
  .of_wp fun prog w A R s h => by
    obtain ⟨hp, g, d, tk, os⟩ := s; obtain ⟨h1, h⟩ := h
    have hsub := sub_enumerate
    have q1 : ∀ {A' : Around} {E : Value → Shared → Prop} {Q : Value → Shared → Prop}, Q (.ref hp.objs.size) ⟨hp.push o, g, d, tk, os⟩ → wpAny (model prog w) A' (pyIter v) Q E ⟨hp, g, d, tk, os⟩ :=
      fun q => B.iter prog w _ _ ⟨hp, g, d, tk, os⟩ _ h1 q
    wp_walk using q1
    refine wpAny_stack_any fun st => wpAny_pure ?_
    split
    · rename_i c _ _ _ _ _
      cases (c == Value.type "enumerate")
      · wp_walk using q1
        exact ⟨_, rfl, h⟩
      · wp_walk using q1
        exact ⟨_, rfl, h⟩
    · wp_walk using q1
      exact ⟨_, rfl, h⟩
theorem enum_begins1 {prog : Program} {w : World} {A : Around} {E : Value → Shared → Prop} {s : Shared} {v : Value} {o : Obj} {H : Heap → Prop} {Q : Value → Shared → Prop} (B : Begins v o H) (h1 : H s.heap)
    (h : ∀ h', IsEnum h' (s.heap.objs.size + 1) s.heap.objs.size 0 .none → h'.get? s.heap.objs.size = some o → h'.objs.size = s.heap.objs.size + 2 →
      (∀ b o, s.heap.get? b = some o → h'.get? b = some o) → Q (.ref (s.heap.objs.size + 1)) { s with heap := h' }) :
    wpAny (model prog w) A (call (.type "enumerate") [v]) Q E s := by
  refine callType_new F.called_enumerate (by decide) (F.typeCall_enumerate_1 _) (F.newCall_enumerate_1 _) (fun obj => F.args_object_init_2 obj _) F.entry_enumerate_new
    (meets_enumerate_newB1 B) ⟨h1, ?_⟩
  have hz : (s.heap.push o).objs.size = s.heap.objs.size + 1 := Heap.size_push ..
  show _ ∧ _
  rw [hz]
  have he : IsEnum ((s.heap.push o).push { cls := .type "enumerate", data := .fields #[.none, .bool false, .ref s.heap.objs.size, rawInt 0, .none, .none] }) (s.heap.objs.size + 1) s.heap.objs.size 0 .none := by
    have := Heap.get?_push_size (s.heap.push o) (o := { cls := .type "enumerate", data := .fields #[.none, .bool false, .ref s.heap.objs.size, rawInt 0, .none, .none] }) rfl
    rw [hz] at this; exact this
  refine ⟨⟨_, he, rfl⟩, h _ he (Heap.get?_push_of_some _ (Heap.get?_push_size _ B.free)) (by rw [Heap.size_push, hz]) fun b o x => Heap.get?_push_of_some _ (Heap.get?_push_of_some _ x)⟩
def iEnumT (K : PySem.W.Frag) (ta : TA) : TI := fun σ H R => ta σ H fun vs H1 => ∃ a xs, vs = [.ref a] ∧ SqT K H1 a xs ∧ R (IteT K a) H1
theorem pi_enumT {X : Cx} {e : Expr} {ta : TA} {p pos tpos : Pos} {elts : List Expr} {kk : Nat} (hg : Gl X "enumerate") (hm : X.mg "enumerate" = none) (ha : PA X [e] ta) (hs : starEach [e] X.env = [(false, eval e X.env)] := by rfl) :
    PI X (.Tuple elts kk tpos) (.Call (.Name "enumerate" p) [e] [] pos) (iEnumT X.K ta) := by
  refine ⟨fun pins s σ H R I h => ?_⟩
  refine Call_ (ld_blt I hg hm boot_enumerate (PyProof.Rows.callWith_type1 (thn (ha.run pos pins s σ H _ I h) fun us s1 ⟨vs, H1, I1, r1, q1⟩ => ?_) hs rfl))
  obtain ⟨a, xs, ex, hq, q⟩ := q1
  subst ex
  cases r1 with
  | cons r rr =>
    cases rr
    cases r
    obtain ⟨its, rv, p', hz⟩ := I1.tuple hq
    have p2 : s1.heap.IsTuple a its.toArray := p'
    have hal : a < s1.heap.objs.size := by obtain ⟨_, q, _⟩ := p2; exact Heap.lt_size q
    refine enum_begins1 (begins_tuple a its.toArray) p2 fun h' he hit hsz hk => wpAny_pyIter_enum he ?_
    have I2 : Inv X pins σ H1 { s1 with heap := h' } := I1.kept (t' := s1.toks) hk
    refine ⟨s1.heap.objs.size + 1, [s1.heap.objs.size + 1, s1.heap.objs.size], _, _, H1, rfl, I2, turn_enumT a (s1.heap.objs.size + 1) s1.heap.objs.size (Nat.ne_of_gt (Nat.lt_succ_of_lt hal)), ⟨⟨.none, he⟩, ⟨_, hit, rfl, rfl⟩, Nat.succ_ne_self _⟩, fun b hb => ?_, q⟩
    have e' : b = s1.heap.objs.size + 1 ∨ b = s1.heap.objs.size := by simpa using hb
    have hle : s1.heap.objs.size ≤ b := by
      rcases e' with z | z
      · rw [z]; exact Nat.le_add_right _ _
      · rw [z]; exact Nat.le_refl _
    exact I1.fpOk hle (I1.hok.fresh hle)

/-! ### zip(text, tuple) -/
def ItzS (K : PySem.W.Frag) (z : Str) (b : Addr) : It :=
  ⟨fun i H => ∃ (xs : List V) (c : Nat) (x : V), SqT K H b xs ∧ z.cps[i]? = some c ∧ xs[i]? = some x,
    fun i H v H' => ∃ T c x, v = .ref T ∧ H T = none ∧ H' = upd H T (.tup [.str ⟨#[c]⟩, x]) ∧ z.cps[i]? = some c ∧ ∀ ys, SqT K H b ys → ys[i]? = some x,
    fun i H => ∃ xs : List V, SqT K H b xs ∧ i ≤ z.cps.size ∧ i ≤ xs.length ∧ (i = z.cps.size ∨ i = xs.length)⟩
theorem turn_zipS {P : Program} {w : World} {K : PySem.W.Frag} {elts : List Expr} {kk : Nat} {tpos : Pos} {x : Str} {t : Tok} {b z TI TO i1 i2 : Addr} (D : ZipSep2 z TI TO i1 i2 [i1] [i2, b]) :
    Turn P w K (.Tuple elts kk tpos) (ItzS K x b) [z, TI, TO, i1, i2] z (fun i h => IsZip h z TI TO .none ∧ IsTupOf2 h TI (.ref i1) (.ref i2) ∧ (∃ a1 a2, IsTupOf2 h TO a1 a2) ∧ h.IsStrIter i1 (strIterType x) x t i ∧ h.IsTupleIter i2 b i) where
  mem := by simp
  obj := fun i h st c hc => by
    obtain ⟨hz, hTI, ⟨x, y, hTO⟩, ⟨o1, e1, _, d1⟩, ⟨o2, e2, _, d2⟩⟩ := st
    have e' : c = z ∨ c = TI ∨ c = TO ∨ c = i1 ∨ c = i2 := by simpa using hc
    rcases e' with q | q | q | q | q
    · rw [q]; exact ⟨_, hz, fun v q => nomatch q⟩
    · rw [q]; exact ⟨_, hTI, fun v q => nomatch q⟩
    · rw [q]; exact ⟨_, hTO, fun v q => nomatch q⟩
    · rw [q]; exact ⟨o1, e1, fun v q => by rw [d1] at q; cases q⟩
    · rw [q]; exact ⟨o2, e2, fun v q => by rw [d2] at q; cases q⟩
  keep := fun i h h' st k => by
    obtain ⟨hz, hTI, ⟨x, y, hTO⟩, ⟨o1, e1, r1⟩, h2⟩ := st
    exact ⟨k z (by simp) _ hz, k TI (by simp) _ hTI, ⟨x, y, k TO (by simp) _ hTO⟩, ⟨o1, k i1 (by simp) _ e1, r1⟩, h2.at fun o q => k i2 (by simp) o q⟩
  item := by
    intro X hP hw hK hc i pins s σ H E I hf st hg
    subst hP hw hK
    obtain ⟨hz, hTI, ⟨x0, y0, hTO⟩, h1, h2⟩ := st
    obtain ⟨ys, c, y, hqy, hx, hy⟩ := hg
    obtain ⟨its2, rv2, p2, _⟩ := I.tuple hqy
    have p2' : s.heap.IsTuple b its2.toArray := p2
    obtain ⟨u2, hu2, ru2⟩ := rv2.get hy
    have hu2' : its2.toArray[i]? = some u2 := by simpa using hu2
    have hzl : z < s.heap.objs.size := Heap.lt_size hz
    have l1 : i < x.cps.size := (Array.getElem?_eq_some_iff.mp hx).1
    have l2 : i < its2.toArray.size := (Array.getElem?_eq_some_iff.mp hu2').1
    refine wpAny_pyNext_zipD2_item D (Draws.text (in1_hd (I.ok.hd hc)) i1 x t) (Draws.tuple (in1_hd (I.ok.hd hc)) i2 b (tupit_ne h2 p2') its2.toArray) hz hTI hTO h1 ⟨h2, p2'⟩ l1 l2
      fun v1 v2 h' tk hv1 hv2 z' TO' h1' h2' hT hsz hk => ?_
    obtain ⟨c', tk1, hc1, ev1⟩ := hv1
    have ecc : c' = c := by
      rw [hx] at hc1
      exact (Option.some.inj hc1).symm
    have evu : v2 = u2 := by
      have hv2' : its2.toArray[i]? = some v2 := hv2
      rw [hu2'] at hv2'
      exact (Option.some.inj hv2').symm
    subst ecc evu ev1
    refine ⟨_, rfl, wpAny_letOwnedTupleGo_zip (s := { s with heap := h', toks := tk }) z' fun h'' z'' sb => ?_⟩
    have hT2 : h''.get? s.heap.objs.size = some { cls := .type "tuple", data := .seq #[.str ⟨#[c']⟩ tk1, v2] } := (sb.2 _ (Nat.ne_of_gt hzl)).trans hT
    have new : ObjOk X.prog X.w (upd H s.heap.objs.size (.tup [.str ⟨#[c']⟩, y])) h'' s.heap.objs.size (.tup [.str ⟨#[c']⟩, y]) :=
      ⟨by show 2 ≤ sizeLine; decide, [.str ⟨#[c']⟩ tk1, v2], .cons ⟨_, rfl⟩ (.cons ru2 .nil), ⟨_, hT2, rfl, _, rfl⟩⟩
    have I1 : Inv X pins σ (upd H s.heap.objs.size (.tup [.str ⟨#[c']⟩, y])) { s with heap := h'', toks := tk } :=
      I.turnedNew (t' := tk) (ch := [z, TI, TO, i1, i2]) (fun c o hb q => (sb.2 c (fun q' => hb (by simp [q']))).trans (hk c o (fun q' => hb (by simp [q'])) (fun q' => hb (by simp [q'])) (fun q' => hb (by simp [q'])) (fun q' => hb (by simp [q'])) q)) hf (Nat.le_refl _) new
    refine ⟨.ref s.heap.objs.size, _, I1, rfl, ⟨_, c', y, rfl, I.hok.fresh (Nat.le_refl _), rfl, hx, fun l hl => by rw [I.tuple_inj hl hqy]; exact hy⟩, ⟨z'', ?_, ⟨_, _, (sb.2 _ D.TOz).trans TO'⟩, ?_, ?_⟩, fun c hcm => ?_⟩
    · exact (sb.2 _ D.TIz).trans (hk _ _ D.TIz D.TITO D.TIi1 D.TIi2 hTI)
    · obtain ⟨o1, e1, r1⟩ := h1'
      exact ⟨o1, (sb.2 _ (Ne.symm D.zi1)).trans e1, r1⟩
    · exact h2'.1.at fun o q => (sb.2 _ (Ne.symm D.zi2)).trans q
    · have hlt : c < s.heap.objs.size := by
        have e' : c = z ∨ c = TI ∨ c = TO ∨ c = i1 ∨ c = i2 := by simpa using hcm
        rcases e' with q | q | q | q | q
        · rw [q]; exact hzl
        · rw [q]; exact Heap.lt_size hTI
        · rw [q]; exact Heap.lt_size hTO
        · rw [q]; obtain ⟨_, e1, _⟩ := h1; exact Heap.lt_size e1
        · rw [q]; obtain ⟨_, e2, _⟩ := h2; exact Heap.lt_size e2
      rw [upd_ne (Nat.ne_of_lt hlt)]
      exact (hf c hcm).1
  done := by
    intro X hP hw hK hc i pins s σ H E I hf st hg
    subst hP hw hK
    obtain ⟨hz, hTI, ⟨x0, y0, hTO⟩, h1, h2⟩ := st
    obtain ⟨ys, hqy, l1, l2, hend⟩ := hg
    obtain ⟨its2, rv2, p2, _⟩ := I.tuple hqy
    have p2' : s.heap.IsTuple b its2.toArray := p2
    have hlen := rv2.length
    have es : its2.toArray.size = ys.length := by rw [List.size_toArray, hlen]
    exact wpAny_pyNext_zipD2_end D (Draws.text (in1_hd (I.ok.hd hc)) i1 x t) (Draws.tuple (in1_hd (I.ok.hd hc)) i2 b (tupit_ne h2 p2') its2.toArray) hz hTI hTO h1 ⟨h2, p2'⟩ l1 (by rw [es]; exact l2) (by rw [es]; exact hend)
      fun h' tk hk => ⟨rfl, I.turnedL (t' := tk) (ch := [z, TI, TO, i1, i2]) (fun c o hb q => hk c o (fun q' => hb (by simp [q'])) (fun q' => hb (by simp [q'])) (fun q' => hb (by simp [q'])) (fun q' => hb (by simp [q'])) q) hf⟩
  self := fun A i s Q E st h => wpAny_pyIter_zip st.1 h
def iZipS (K : PySem.W.Frag) (ta : TA) : TI := fun σ H R => ta σ H fun vs H1 => ∃ z b ys, vs = [.str z, .ref b] ∧ SqT K H1 b ys ∧ R (ItzS K z b) H1
theorem pi_zipS {X : Cx} {e e2 : Expr} {ta : TA} {p pos tpos : Pos} {elts : List Expr} {kk : Nat} (hg : Gl X "zip") (hm : X.mg "zip" = none) (ha : PA X [e, e2] ta)
    (hs : starEach [e, e2] X.env = (false, eval e X.env) :: starEach [e2] X.env := by rfl) (hpl : (backTo pos (starEach [e2] X.env)).any (·.1) = false := by rfl) :
    PI X (.Tuple elts kk tpos) (.Call (.Name "zip" p) [e, e2] [] pos) (iZipS X.K ta) := by
  refine ⟨fun pins s σ H R I h => ?_⟩
  refine Call_ (ld_blt I hg hm PyProof.Rows.boot_zip (PyProof.Rows.callWith_type1 (thn (ha.run pos pins s σ H _ I h) fun us s1 ⟨vs, H1, I1, r1, q1⟩ => ?_) hs hpl))
  obtain ⟨z, b, ys, ex, hqy, q⟩ := q1
  subst ex
  cases r1 with
  | cons r rr =>
    cases rr with
    | cons r' rr =>
      cases rr
      cases r'
      obtain ⟨t, et⟩ := (show ∃ t, _ = Value.str z t from r)
      subst et
      have fresh5 : ∀ c, c ∈ [s1.heap.objs.size + 4, s1.heap.objs.size + 2, s1.heap.objs.size + 3, s1.heap.objs.size, s1.heap.objs.size + 1] → FpOk X pins H1 c := fun c hcm => by
        have e' : c = s1.heap.objs.size + 4 ∨ c = s1.heap.objs.size + 2 ∨ c = s1.heap.objs.size + 3 ∨ c = s1.heap.objs.size ∨ c = s1.heap.objs.size + 1 := by simpa using hcm
        have hle : s1.heap.objs.size ≤ c := by
          rcases e' with z | z | z | z | z
          · rw [z]; exact Nat.le_add_right _ _
          · rw [z]; exact Nat.le_add_right _ _
          · rw [z]; exact Nat.le_add_right _ _
          · rw [z]; exact Nat.le_refl _
          · rw [z]; exact Nat.le_add_right _ _
        exact I1.fpOk hle (I1.hok.fresh hle)
      obtain ⟨its2, rv2, p2, _⟩ := I1.tuple hqy
      have p2' : s1.heap.IsTuple b its2.toArray := p2
      obtain ⟨o2, ho2, _⟩ := id p2
      have hb : b < s1.heap.objs.size := Heap.lt_size ho2
      refine zip_begins2 (begins_text z t) (begins_tuple b its2.toArray) trivial p2' fun h' hz hTI hTO h1 h2 hsz hk => wpAny_pyIter_zip hz ?_
      have I2 : Inv X pins σ H1 { s1 with heap := h' } := I1.kept (t' := s1.toks) hk
      exact ⟨s1.heap.objs.size + 4, [s1.heap.objs.size + 4, s1.heap.objs.size + 2, s1.heap.objs.size + 3, s1.heap.objs.size, s1.heap.objs.size + 1], _, _, H1, rfl, I2,
        turn_zipS (t := t) (zip_sep2 (fp1 := []) (fp2 := [b]) (fun _ h => by cases h) (fun c h => by rw [List.mem_singleton.mp h]; exact hb)), ⟨hz, hTI, ⟨_, _, hTO⟩, ⟨_, h1, rfl, rfl⟩, ⟨_, h2, rfl, rfl⟩⟩, fresh5, q⟩

/-! ### a list or a tuple walked -/
def iSeq (K : PySem.W.Frag) (tl : TE) : TI := fun σ H R => tl σ H fun x H1 => ∃ a, x = .ref a ∧ ((∃ xs, SqL K H1 a xs) ∧ R (Itl K a) H1 ∨ (∃ xs, SqT K H1 a xs) ∧ R (Itt K a) H1)
theorem pi_seq {X : Cx} {tg l : Expr} {tl : TE} (hl : PE X l tl) : PI X tg l (iSeq X.K tl) := by
  refine ⟨fun pins s σ H R I h => ?_⟩
  refine thn (hl.run pins s σ H _ I h) fun v s1 ⟨x, H1, I1, r1, q1⟩ => ?_
  obtain ⟨a, e, q⟩ := q1
  subst e
  cases r1
  rcases q with ⟨⟨xs, hq⟩, q⟩ | ⟨⟨xs, hq⟩, q⟩
  · obtain ⟨its, rv, p, hz⟩ := I1.list hq
    refine wpAny_pyIter_list p.isList ?_
    refine ⟨s1.heap.objs.size, [s1.heap.objs.size], _, _, H1, rfl, I1.kept (t' := s1.toks) fun b o e => Heap.get?_push_of_some _ e, turn_list a _, ⟨_, Heap.get?_push_size _ rfl, rfl, rfl⟩, fun b hb => ?_, q⟩
    have e : b = s1.heap.objs.size := by simpa using hb
    subst e
    exact I1.fpOk (Nat.le_refl _) (I1.hok.fresh (Nat.le_refl _))
  · obtain ⟨its, rv, p, hz⟩ := I1.tuple hq
    refine wpAny_pyIter_tuple (show s1.heap.IsTuple a its.toArray from p) ?_
    refine ⟨s1.heap.objs.size, [s1.heap.objs.size], _, _, H1, rfl, I1.kept (t' := s1.toks) fun b o e => Heap.get?_push_of_some _ e, turn_tuple a _, ⟨_, Heap.get?_push_size _ rfl, rfl, rfl⟩, fun b hb => ?_, q⟩
    have e : b = s1.heap.objs.size := by simpa using hb
    subst e
    exact I1.fpOk (Nat.le_refl _) (I1.hok.fresh (Nat.le_refl _))

/-! ### sorted(list of data) -/
theorem dpAll_len {K : PySem.W.Frag} {H : Hp} : ∀ {xs : List V} {ds : List PyData}, DpAll K H xs ds → xs.length = ds.length
  | _, _, .nil => rfl
  | _, _, .cons _ t => by rw [List.length_cons, List.length_cons, dpAll_len t]
theorem each_dp {X : Cx} {pins : List (Addr × Obj)} {σ : L2.St} {H : Hp} {s : Shared} (I : Inv X pins σ H s) : ∀ {xs : List V} {ds : List PyData} {us : List Value}, DpAll X.K H xs ds → Vals xs us →
    PySem.W.EachIs (fun v b => ∃ y, RelV y v ∧ Dp X.K H y b) us ds ∧ PySem.W.EachIs (fun v b => ∃ as, Reads s.heap v b as) us ds
  | _, _, _, .nil, .nil => ⟨.nil, .nil⟩
  | _, _, _, .cons h t, .cons r rr => by
    obtain ⟨e1, e2⟩ := each_dp I t rr
    exact ⟨.cons ⟨_, r, h⟩ e1, .cons (Dp.reads I _ _ _ h r) e2⟩
theorem each_back {K : PySem.W.Frag} {H : Hp} : ∀ {us : List Value} {ds : List PyData}, PySem.W.EachIs (fun v b => ∃ y, RelV y v ∧ Dp K H y b) us ds → ∃ ys, Vals ys us ∧ DpAll K H ys ds
  | _, _, .nil => ⟨[], .nil, .nil⟩
  | _, _, .cons ⟨y, r, d⟩ t => by
    obtain ⟨ys, r2, d2⟩ := each_back t
    exact ⟨y :: ys, .cons r r2, .cons d d2⟩
def rSortedD (K : PySem.W.Frag) : List V → Hp → VK → Prop := fun vs H Q => ∃ (a : Addr) (xs : List V) (ds : List PyData), vs = [V.ref a] ∧ SqL K H a xs ∧ DpAll K H xs ds ∧ PySem.W.AllAlike ds ∧ PySem.W.Sortable ds ∧ (∀ d, d ∈ ds → d.depth ≤ 60) ∧
  ∀ (ys : List V) (p : Addr), H p = none → DpAll K H ys (ds.mergeSort (PySem.W.dataLe false id)) → Q (.ref p) (upd H p (.lst ys))
theorem cr_sortedD {X : Cx} (hu : X.A.units + 64 < cLine) : CallR X (.builtin "sorted") (rSortedD X.K) := by
  intro pins s σ H vs us Q I r h
  obtain ⟨a, xs, ds, rfl, hs, hd, h1, h2, h3, q⟩ := h
  obtain ⟨its, rv, hl, hz⟩ := I.list hs
  rw [Vals.ref1 r]
  obtain ⟨e1, e2⟩ := each_dp I hd rv
  have hlen := dpAll_len hd
  have em : ds.map id = ds := List.map_id ds
  refine PySem.W.sorted_data (enc := id) (bs := ds) hl.isList e1 e2 (by rw [em]; exact h1) (by rw [em]; exact h2) (by rw [← hlen]; exact hz) (fun b hb => by
    have := h3 b hb
    show X.A.units + 2 + b.depth < cLine
    omega) fun out ho eo => ?_
  obtain ⟨ys, ry, dy⟩ := each_back eo
  obtain ⟨ep, he'⟩ := PyProof.Rows.sortedAll_at s.heap its out.toArray
  have hlen2 : ys.length ≤ sizeLine := by rw [ry.length, ho, ← hlen]; exact hz
  exact ⟨.ref _, upd H (s.heap.objs.size + 1) (.lst ys), I.laid (t' := s.toks) (fun _ _ => PyProof.Rows.sortedAll_old) (Nat.le_succ _) ⟨hlen2, out, ep, ry, he'⟩, rfl, q ys _ (I.hok.fresh (Nat.le_succ _)) dy⟩

/-! names for two readings -/
def rTupO (K : PySem.W.Frag) : List V → Hp → VK → Prop := fun xs H Q => ∃ p ys, xs = [.ref p] ∧ ((SqL K H p ys ∧ ∀ l, H l = none → Q (.ref l) (upd H l (.tup ys))) ∨ (SqT K H p ys ∧ Q (.ref p) H))
theorem call_tupR {X : Cx} : CallR X (.type "tuple") (rTupO X.K) := call_tuple_of
theorem units65 {k : Nat} {A : Around} (r : Room k A) : A.units + 65 < cLine := by have := r.un; omega
def rInt1 : List V → Hp → VK → Prop := fun xs H Q => (∃ i, xs = [.int i] ∧ Q (.int i) H) ∨ ∃ k, xs = [.bl k] ∧ Q (.int (if k then 1 else 0)) H
theorem call_intR {X : Cx} : CallR X (.type "int") rInt1 := call_int1
end Pp

set_option Elab.async false
set_option linter.all false
set_option maxRecDepth 100000
set_option maxHeartbeats 2000000
/-! the text by places; what the head must tell. Printed by gen_text.py -/
namespace Pp
open PySem PySem.Spec PyProof.Rows L2
def top (i : Nat) : Stmt := PySem.Challenge.pw_pileports_k51_whole_wishes_are_met.main.body.getD i (.Pass ⟨0, 0, 0, 0⟩)
abbrev s_greatest_divisor : Stmt := top 15
abbrev s_reciprocal : Stmt := top 16
abbrev s_agree : Stmt := top 17
abbrev s_joined : Stmt := top 18
abbrev s_need_size : Stmt := top 25
abbrev s_need_place : Stmt := top 26
abbrev s_placed : Stmt := top 28
abbrev s_is_item : Stmt := top 36
abbrev s_is_move : Stmt := top 37
abbrev s_depth_of : Stmt := top 38
abbrev s_carried : Stmt := top 43
abbrev s_moved : Stmt := top 44
abbrev s_need_played : Stmt := top 47
abbrev s_ruled : Stmt := top 50
abbrev s_trimmed : Stmt := top 51
abbrev s_image_counts : Stmt := top 52
abbrev s_are_parts : Stmt := top 53
abbrev s_end_entry : Stmt := top 54
abbrev s_move_parts : Stmt := top 55
abbrev s_form_of : Stmt := top 60
abbrev s_settled : Stmt := top 61
abbrev s_total : Stmt := top 64
abbrev s_need_spot : Stmt := top 65
abbrev s_way : Stmt := top 66
abbrev s_seen_at : Stmt := top 68
abbrev s_met : Stmt := top 69
abbrev s_meeting : Stmt := top 70
abbrev s_wish : Stmt := top 71
abbrev s_need_rounds : Stmt := top 74
abbrev s_found_after : Stmt := top 75
abbrev s_after : Stmt := top 76
abbrev s_L_bag : Stmt := top 78
abbrev s_L_pull : Stmt := top 79
abbrev s_L_of : Stmt := top 80
abbrev s_L_same : Stmt := top 81
abbrev s_L_end : Stmt := top 82
abbrev s_L_move : Stmt := top 83
abbrev s_L_moves : Stmt := top 84
abbrev s_L_made : Stmt := top 85
abbrev s_L_great : Stmt := top 86
abbrev s_L_place_of : Stmt := top 87
abbrev s_L_gcd : Stmt := top 88
abbrev s_L_lcm : Stmt := top 89
abbrev s_law : Stmt := top 90
abbrev s_Word_init : Stmt := inClass (top 48) 2
abbrev s_Word_reach : Stmt := inClass (top 48) 4
abbrev s_Word_moves : Stmt := inClass (top 48) 5
abbrev s_Word_sent : Stmt := inClass (top 48) 7
abbrev s_Word_play : Stmt := inClass (top 48) 9
abbrev s_Word_add : Stmt := inClass (top 48) 10
abbrev s_Form_init : Stmt := inClass (top 58) 1
abbrev s_Form_still : Stmt := inClass (top 58) 2
abbrev s_Form_of : Stmt := inClass (top 58) 3
abbrev s_Form_turned : Stmt := inClass (top 58) 5
abbrev s_Form_shift : Stmt := inClass (top 58) 6
abbrev s_Form_least : Stmt := inClass (top 58) 7
abbrev s_Form_top : Stmt := inClass (top 58) 8
abbrev s_Form_bottom : Stmt := inClass (top 58) 9
abbrev s_Form_entry : Stmt := inClass (top 58) 10
abbrev s_Form_sent : Stmt := inClass (top 58) 12
abbrev s_Form_need_least : Stmt := inClass (top 58) 13
abbrev s_Form_listed : Stmt := inClass (top 58) 15
abbrev s_Form_reached : Stmt := inClass (top 58) 16
abbrev s_Form_followed : Stmt := inClass (top 58) 17
abbrev s_Form_mul : Stmt := inClass (top 58) 18
abbrev s_Track_init : Stmt := inClass (top 63) 0
abbrev s_Track_is_middle : Stmt := inClass (top 63) 1
abbrev s_Track_run_length : Stmt := inClass (top 63) 2
abbrev s_Track_pieces : Stmt := inClass (top 63) 3
abbrev n_greatest_divisor : List Str := ["one", "other"]
theorem sc_greatest_divisor : FnScope n_greatest_divisor ["one", "other"] (defScope s_greatest_divisor) := ⟨rfl, rfl, rfl, by decide +kernel, rfl, by decide +kernel, by decide +kernel⟩
abbrev n_reciprocal : List Str := ["number", "modulus", "here", "there", "quotient"]
theorem sc_reciprocal : FnScope n_reciprocal ["number", "modulus"] (defScope s_reciprocal) := ⟨rfl, rfl, rfl, by decide +kernel, rfl, by decide +kernel, by decide +kernel⟩
abbrev n_agree : List Str := ["one", "other"]
theorem sc_agree : FnScope n_agree ["one", "other"] (defScope s_agree) := ⟨rfl, rfl, rfl, by decide +kernel, rfl, by decide +kernel, by decide +kernel⟩
abbrev n_joined : List Str := ["one", "other", "shared", "rest", "factor"]
theorem sc_joined : FnScope n_joined ["one", "other"] (defScope s_joined) := ⟨rfl, rfl, rfl, by decide +kernel, rfl, by decide +kernel, by decide +kernel⟩
abbrev n_need_size : List Str := ["size"]
theorem sc_need_size : FnScope n_need_size ["size"] (defScope s_need_size) := ⟨rfl, rfl, rfl, by decide +kernel, rfl, by decide +kernel, by decide +kernel⟩
abbrev n_need_place : List Str := ["place", "size"]
theorem sc_need_place : FnScope n_need_place ["place", "size"] (defScope s_need_place) := ⟨rfl, rfl, rfl, by decide +kernel, rfl, by decide +kernel, by decide +kernel⟩
abbrev n_placed : List Str := ["end_place", "size", "end", "depth"]
theorem sc_placed : FnScope n_placed ["end_place", "size"] (defScope s_placed) := ⟨rfl, rfl, rfl, by decide +kernel, rfl, by decide +kernel, by decide +kernel⟩
abbrev n_is_item : List Str := ["sign", "item"]
theorem sc_is_item : FnScope n_is_item ["sign", "item"] (defScope s_is_item) := ⟨rfl, rfl, rfl, by decide +kernel, rfl, by decide +kernel, by decide +kernel⟩
abbrev n_is_move : List Str := ["move", "sign", "item"]
theorem sc_is_move : FnScope n_is_move ["move"] (defScope s_is_move) := ⟨rfl, rfl, rfl, by decide +kernel, rfl, by decide +kernel, by decide +kernel⟩
abbrev n_depth_of : List Str := ["move"]
theorem sc_depth_of : FnScope n_depth_of ["move"] (defScope s_depth_of) := ⟨rfl, rfl, rfl, by decide +kernel, rfl, by decide +kernel, by decide +kernel⟩
abbrev n_carried : List Str := ["source", "goal", "place"]
theorem sc_carried : FnScope n_carried ["source", "goal", "place"] (defScope s_carried) := ⟨rfl, rfl, rfl, by decide +kernel, rfl, by decide +kernel, by decide +kernel⟩
abbrev n_moved : List Str := ["move", "size", "place", "spots", "end", "many", "depth"]
theorem sc_moved : FnScope n_moved ["move", "size", "place"] (defScope s_moved) := ⟨rfl, rfl, rfl, by decide +kernel, rfl, by decide +kernel, by decide +kernel⟩
abbrev n_need_played : List Str := ["size"]
theorem sc_need_played : FnScope n_need_played ["size"] (defScope s_need_played) := ⟨rfl, rfl, rfl, by decide +kernel, rfl, by decide +kernel, by decide +kernel⟩
abbrev n_ruled : List Str := ["turned", "shift", "end", "depth"]
theorem sc_ruled : FnScope n_ruled ["turned", "shift", "end", "depth"] (defScope s_ruled) := ⟨rfl, rfl, rfl, by decide +kernel, rfl, by decide +kernel, by decide +kernel⟩
abbrev n_trimmed : List Str := ["turned", "shift", "end", "table", "many"]
theorem sc_trimmed : FnScope n_trimmed ["turned", "shift", "end", "table"] (defScope s_trimmed) := ⟨rfl, rfl, rfl, by decide +kernel, rfl, by decide +kernel, by decide +kernel⟩
abbrev n_image_counts : List Str := ["turned", "shift", "above", "below"]
theorem sc_image_counts : FnScope n_image_counts ["turned", "shift", "above", "below"] (defScope s_image_counts) := ⟨rfl, rfl, rfl, by decide +kernel, rfl, by decide +kernel, by decide +kernel⟩
abbrev n_are_parts : List Str := ["turned", "shift", "top", "bottom", "above", "below", "wanted", "depth", "entry"]
theorem sc_are_parts : FnScope n_are_parts ["turned", "shift", "top", "bottom"] (defScope s_are_parts) := ⟨rfl, rfl, rfl, by decide +kernel, rfl, by decide +kernel, by decide +kernel⟩
abbrev n_end_entry : List Str := ["move", "size", "place", "goal", "changed"]
theorem sc_end_entry : FnScope n_end_entry ["move", "size", "place"] (defScope s_end_entry) := ⟨rfl, rfl, rfl, by decide +kernel, rfl, by decide +kernel, by decide +kernel⟩
abbrev n_move_parts : List Str := ["move", "deep", "size", "middle", "turned", "shift", "top", "bottom", "depth"]
theorem sc_move_parts : FnScope n_move_parts ["move"] (defScope s_move_parts) := ⟨rfl, rfl, rfl, by decide +kernel, rfl, by decide +kernel, by decide +kernel⟩
abbrev n_form_of : List Str := ["word"]
theorem sc_form_of : FnScope n_form_of ["word"] (defScope s_form_of) := ⟨rfl, rfl, rfl, by decide +kernel, rfl, by decide +kernel, by decide +kernel⟩
abbrev n_settled : List Str := ["word", "form", "size"]
theorem sc_settled : FnScope n_settled ["word"] (defScope s_settled) := ⟨rfl, rfl, rfl, by decide +kernel, rfl, by decide +kernel, by decide +kernel⟩
abbrev n_total : List Str := ["pieces", "length", "turned", "first", "step", "count", "changed"]
theorem sc_total : FnScope n_total ["pieces"] (defScope s_total) := ⟨rfl, rfl, rfl, by decide +kernel, rfl, by decide +kernel, by decide +kernel⟩
abbrev n_need_spot : List Str := ["size", "place"]
theorem sc_need_spot : FnScope n_need_spot ["size", "place"] (defScope s_need_spot) := ⟨rfl, rfl, rfl, by decide +kernel, rfl, by decide +kernel, by decide +kernel⟩
abbrev n_way : List Str := ["word", "size", "place"]
theorem sc_way : FnScope n_way ["word", "size", "place"] (defScope s_way) := ⟨rfl, rfl, rfl, by decide +kernel, rfl, by decide +kernel, by decide +kernel⟩
abbrev n_seen_at : List Str := ["pieces", "goal", "passed", "turned", "first", "step", "count", "changed", "ahead"]
theorem sc_seen_at : FnScope n_seen_at ["pieces", "goal"] (defScope s_seen_at) := ⟨rfl, rfl, rfl, by decide +kernel, rfl, by decide +kernel, by decide +kernel⟩
abbrev n_met : List Str := ["word", "size", "want", "place", "goal", "face", "pieces", "length", "is_turned", "spot", "rounds", "turned"]
theorem sc_met : FnScope n_met ["word", "size", "want"] (defScope s_met) := ⟨rfl, rfl, rfl, by decide +kernel, rfl, by decide +kernel, by decide +kernel⟩
abbrev n_meeting : List Str := ["word", "size", "place", "goal", "turned"]
theorem sc_meeting : FnScope n_meeting ["word", "size", "place", "goal", "turned"] (defScope s_meeting) := ⟨rfl, rfl, rfl, by decide +kernel, rfl, by decide +kernel, by decide +kernel⟩
abbrev n_wish : List Str := ["word", "size", "wants", "place", "goal", "turned", "found", "at", "one", "later", "here", "pair"]
theorem sc_wish : FnScope n_wish ["word", "size", "wants"] (defScope s_wish) := ⟨rfl, rfl, rfl, by decide +kernel, rfl, by decide +kernel, by decide +kernel⟩
abbrev n_need_rounds : List Str := ["rounds"]
theorem sc_need_rounds : FnScope n_need_rounds ["rounds"] (defScope s_need_rounds) := ⟨rfl, rfl, rfl, by decide +kernel, rfl, by decide +kernel, by decide +kernel⟩
abbrev n_found_after : List Str := ["word", "size", "place", "rounds", "pieces", "length", "turned", "times", "ahead", "face", "first", "step", "count", "changed"]
theorem sc_found_after : FnScope n_found_after ["word", "size", "place", "rounds"] (defScope s_found_after) := ⟨rfl, rfl, rfl, by decide +kernel, rfl, by decide +kernel, by decide +kernel⟩
abbrev n_after : List Str := ["word", "size", "place", "rounds"]
theorem sc_after : FnScope n_after ["word", "size", "place", "rounds"] (defScope s_after) := ⟨rfl, rfl, rfl, by decide +kernel, rfl, by decide +kernel, by decide +kernel⟩
abbrev n_L_bag : List Str := ["_law_script", "_law_salt", "_law_cell"]
theorem sc_L_bag : FnScope n_L_bag ["_law_script"] (defScope s_L_bag) := ⟨rfl, rfl, rfl, by decide +kernel, rfl, by decide +kernel, by decide +kernel⟩
abbrev n_L_pull : List Str := ["_law_bag_here", "_law_amount", "_law_cell", "_law_got", "_law_seed"]
theorem sc_L_pull : FnScope n_L_pull ["_law_bag_here", "_law_amount"] (defScope s_L_pull) := ⟨rfl, rfl, rfl, by decide +kernel, rfl, by decide +kernel, by decide +kernel⟩
abbrev n_L_of : List Str := ["_law_bag_here", "_law_things"]
theorem sc_L_of : FnScope n_L_of ["_law_bag_here", "_law_things"] (defScope s_L_of) := ⟨rfl, rfl, rfl, by decide +kernel, rfl, by decide +kernel, by decide +kernel⟩
abbrev n_L_same : List Str := ["_law_found", "_law_due", "_law_one", "_law_other", "_law_key"]
theorem sc_L_same : FnScope n_L_same ["_law_found", "_law_due"] (defScope s_L_same) := ⟨rfl, rfl, rfl, by decide +kernel, rfl, by decide +kernel, by decide +kernel⟩
abbrev n_L_end : List Str := ["_law_bag_here", "_law_deep"]
theorem sc_L_end : FnScope n_L_end ["_law_bag_here", "_law_deep"] (defScope s_L_end) := ⟨rfl, rfl, rfl, by decide +kernel, rfl, by decide +kernel, by decide +kernel⟩
abbrev n_L_move : List Str := ["_law_bag_here", "_law_deep", "_law_pick"]
theorem sc_L_move : FnScope n_L_move ["_law_bag_here", "_law_deep"] (defScope s_L_move) := ⟨rfl, rfl, rfl, by decide +kernel, rfl, by decide +kernel, by decide +kernel⟩
abbrev n_L_moves : List Str := ["_law_bag_here", "_law_most", "_law_deep", "_law_k"]
theorem sc_L_moves : FnScope n_L_moves ["_law_bag_here", "_law_most", "_law_deep"] (defScope s_L_moves) := ⟨rfl, rfl, rfl, by decide +kernel, rfl, by decide +kernel, by decide +kernel⟩
abbrev n_L_made : List Str := ["_law_moves_here", "_law_found", "_law_move_here"]
theorem sc_L_made : FnScope n_L_made ["_law_moves_here"] (defScope s_L_made) := ⟨rfl, rfl, rfl, by decide +kernel, rfl, by decide +kernel, by decide +kernel⟩
abbrev n_L_great : List Str := ["_law_bag_here"]
theorem sc_L_great : FnScope n_L_great ["_law_bag_here"] (defScope s_L_great) := ⟨rfl, rfl, rfl, by decide +kernel, rfl, by decide +kernel, by decide +kernel⟩
abbrev n_L_place_of : List Str := ["_law_bag_here", "_law_size", "_law_pick", "_law_near"]
theorem sc_L_place_of : FnScope n_L_place_of ["_law_bag_here", "_law_size"] (defScope s_L_place_of) := ⟨rfl, rfl, rfl, by decide +kernel, rfl, by decide +kernel, by decide +kernel⟩
abbrev n_L_gcd : List Str := ["_law_one", "_law_other"]
theorem sc_L_gcd : FnScope n_L_gcd ["_law_one", "_law_other"] (defScope s_L_gcd) := ⟨rfl, rfl, rfl, by decide +kernel, rfl, by decide +kernel, by decide +kernel⟩
abbrev n_L_lcm : List Str := ["_law_numbers", "_law_found", "_law_number"]
theorem sc_L_lcm : FnScope n_L_lcm ["_law_numbers"] (defScope s_L_lcm) := ⟨rfl, rfl, rfl, by decide +kernel, rfl, by decide +kernel, by decide +kernel⟩
abbrev n_law : List Str := ["_law_script", "_law_bag_here", "_law_turn", "_law_some", "_law_size", "_law_word", "_law_rounds", "_law_wants", "_law_k", "_law_place", "_law_goal", "_law_face", "_law_moduli", "_law_told", "_law_kept", "_law_spot"]
theorem sc_law : FnScope n_law ["_law_script"] (defScope s_law) := ⟨rfl, rfl, rfl, by decide +kernel, rfl, by decide +kernel, by decide +kernel⟩
abbrev n_Word_init : List Str := ["self", "moves", "at", "move"]
theorem sc_Word_init : FnScope n_Word_init ["self", "moves"] (defScope s_Word_init) := ⟨rfl, rfl, rfl, by decide +kernel, rfl, by decide +kernel, by decide +kernel⟩
abbrev n_Word_reach : List Str := ["self", "move"]
theorem sc_Word_reach : FnScope n_Word_reach ["self"] (defScope s_Word_reach) := ⟨rfl, rfl, rfl, by decide +kernel, rfl, by decide +kernel, by decide +kernel⟩
abbrev n_Word_moves : List Str := ["self"]
theorem sc_Word_moves : FnScope n_Word_moves ["self"] (defScope s_Word_moves) := ⟨rfl, rfl, rfl, by decide +kernel, rfl, by decide +kernel, by decide +kernel⟩
abbrev n_Word_sent : List Str := ["self", "size", "place", "face", "move", "changed"]
theorem sc_Word_sent : FnScope n_Word_sent ["self", "size", "place"] (defScope s_Word_sent) := ⟨rfl, rfl, rfl, by decide +kernel, rfl, by decide +kernel, by decide +kernel⟩
abbrev n_Word_play : List Str := ["self", "size", "place"]
theorem sc_Word_play : FnScope n_Word_play ["self", "size"] (defScope s_Word_play) := ⟨rfl, rfl, rfl, by decide +kernel, rfl, by decide +kernel, by decide +kernel⟩
abbrev n_Word_add : List Str := ["self", "other", "moves"]
theorem sc_Word_add : FnScope n_Word_add ["self", "other"] (defScope s_Word_add) := ⟨rfl, rfl, rfl, by decide +kernel, rfl, by decide +kernel, by decide +kernel⟩
abbrev n_Form_init : List Str := ["self", "turned", "shift", "top", "bottom", "first", "last", "entry"]
theorem sc_Form_init : FnScope n_Form_init ["self", "turned", "shift", "top", "bottom"] (defScope s_Form_init) := ⟨rfl, rfl, rfl, by decide +kernel, rfl, by decide +kernel, by decide +kernel⟩
abbrev n_Form_still : List Str := []
theorem sc_Form_still : FnScope n_Form_still [] (defScope s_Form_still) := ⟨rfl, rfl, rfl, by decide +kernel, rfl, by decide +kernel, by decide +kernel⟩
abbrev n_Form_of : List Str := ["cls", "moves", "at", "move", "found", "turned", "shift", "top", "bottom"]
theorem sc_Form_of : FnScope n_Form_of ["cls", "moves"] (defScope s_Form_of) := ⟨rfl, rfl, rfl, by decide +kernel, rfl, by decide +kernel, by decide +kernel⟩
abbrev n_Form_turned : List Str := ["self"]
theorem sc_Form_turned : FnScope n_Form_turned ["self"] (defScope s_Form_turned) := ⟨rfl, rfl, rfl, by decide +kernel, rfl, by decide +kernel, by decide +kernel⟩
abbrev n_Form_shift : List Str := ["self"]
theorem sc_Form_shift : FnScope n_Form_shift ["self"] (defScope s_Form_shift) := ⟨rfl, rfl, rfl, by decide +kernel, rfl, by decide +kernel, by decide +kernel⟩
abbrev n_Form_least : List Str := ["self"]
theorem sc_Form_least : FnScope n_Form_least ["self"] (defScope s_Form_least) := ⟨rfl, rfl, rfl, by decide +kernel, rfl, by decide +kernel, by decide +kernel⟩
abbrev n_Form_top : List Str := ["self"]
theorem sc_Form_top : FnScope n_Form_top ["self"] (defScope s_Form_top) := ⟨rfl, rfl, rfl, by decide +kernel, rfl, by decide +kernel, by decide +kernel⟩
abbrev n_Form_bottom : List Str := ["self"]
theorem sc_Form_bottom : FnScope n_Form_bottom ["self"] (defScope s_Form_bottom) := ⟨rfl, rfl, rfl, by decide +kernel, rfl, by decide +kernel, by decide +kernel⟩
abbrev n_Form_entry : List Str := ["self", "end", "depth", "table"]
theorem sc_Form_entry : FnScope n_Form_entry ["self", "end", "depth"] (defScope s_Form_entry) := ⟨rfl, rfl, rfl, by decide +kernel, rfl, by decide +kernel, by decide +kernel⟩
abbrev n_Form_sent : List Str := ["self", "size", "place", "below", "end", "depth", "changed"]
theorem sc_Form_sent : FnScope n_Form_sent ["self", "size", "place"] (defScope s_Form_sent) := ⟨rfl, rfl, rfl, by decide +kernel, rfl, by decide +kernel, by decide +kernel⟩
abbrev n_Form_need_least : List Str := ["self", "size"]
theorem sc_Form_need_least : FnScope n_Form_need_least ["self", "size"] (defScope s_Form_need_least) := ⟨rfl, rfl, rfl, by decide +kernel, rfl, by decide +kernel, by decide +kernel⟩
abbrev n_Form_listed : List Str := ["self", "size", "place"]
theorem sc_Form_listed : FnScope n_Form_listed ["self", "size"] (defScope s_Form_listed) := ⟨rfl, rfl, rfl, by decide +kernel, rfl, by decide +kernel, by decide +kernel⟩
abbrev n_Form_reached : List Str := ["self", "other", "first", "last"]
theorem sc_Form_reached : FnScope n_Form_reached ["self", "other"] (defScope s_Form_reached) := ⟨rfl, rfl, rfl, by decide +kernel, rfl, by decide +kernel, by decide +kernel⟩
abbrev n_Form_followed : List Str := ["self", "other", "end", "depth", "middle", "goal"]
theorem sc_Form_followed : FnScope n_Form_followed ["self", "other", "end", "depth"] (defScope s_Form_followed) := ⟨rfl, rfl, rfl, by decide +kernel, rfl, by decide +kernel, by decide +kernel⟩
abbrev n_Form_mul : List Str := ["self", "other", "above", "below", "turned", "shift", "top", "bottom", "depth"]
theorem sc_Form_mul : FnScope n_Form_mul ["self", "other"] (defScope s_Form_mul) := ⟨rfl, rfl, rfl, by decide +kernel, rfl, by decide +kernel, by decide +kernel⟩
abbrev n_Track_init : List Str := ["self", "word", "size", "form", "least"]
theorem sc_Track_init : FnScope n_Track_init ["self", "word", "size"] (defScope s_Track_init) := ⟨rfl, rfl, rfl, by decide +kernel, rfl, by decide +kernel, by decide +kernel⟩
abbrev n_Track_is_middle : List Str := ["self", "place"]
theorem sc_Track_is_middle : FnScope n_Track_is_middle ["self", "place"] (defScope s_Track_is_middle) := ⟨rfl, rfl, rfl, by decide +kernel, rfl, by decide +kernel, by decide +kernel⟩
abbrev n_Track_run_length : List Str := ["self", "place", "start", "step", "count", "ahead", "rest"]
theorem sc_Track_run_length : FnScope n_Track_run_length ["self", "place", "start"] (defScope s_Track_run_length) := ⟨rfl, rfl, rfl, by decide +kernel, rfl, by decide +kernel, by decide +kernel⟩
abbrev n_Track_pieces : List Str := ["self", "start", "found", "here", "is_back", "count", "goal", "changed"]
theorem sc_Track_pieces : FnScope n_Track_pieces ["self", "start"] (defScope s_Track_pieces) := ⟨rfl, rfl, rfl, by decide +kernel, rfl, by decide +kernel, by decide +kernel⟩
def d_greatest_divisor : He5.DefA := ⟨fun K => He.ga K "greatest_divisor", "greatest_divisor", "greatest_divisor", defArgs s_greatest_divisor, defBody s_greatest_divisor, defScope s_greatest_divisor, [], []⟩
def d_reciprocal : He5.DefA := ⟨fun K => He.ga K "reciprocal", "reciprocal", "reciprocal", defArgs s_reciprocal, defBody s_reciprocal, defScope s_reciprocal, [], []⟩
def d_agree : He5.DefA := ⟨fun K => He.ga K "agree", "agree", "agree", defArgs s_agree, defBody s_agree, defScope s_agree, [], []⟩
def d_joined : He5.DefA := ⟨fun K => He.ga K "joined", "joined", "joined", defArgs s_joined, defBody s_joined, defScope s_joined, [], []⟩
def d_need_size : He5.DefA := ⟨fun K => He.ga K "need_size", "need_size", "need_size", defArgs s_need_size, defBody s_need_size, defScope s_need_size, [], []⟩
def d_need_place : He5.DefA := ⟨fun K => He.ga K "need_place", "need_place", "need_place", defArgs s_need_place, defBody s_need_place, defScope s_need_place, [], []⟩
def d_placed : He5.DefA := ⟨fun K => He.ga K "placed", "placed", "placed", defArgs s_placed, defBody s_placed, defScope s_placed, [], []⟩
def d_is_item : He5.DefA := ⟨fun K => He.ga K "is_item", "is_item", "is_item", defArgs s_is_item, defBody s_is_item, defScope s_is_item, [], []⟩
def d_is_move : He5.DefA := ⟨fun K => He.ga K "is_move", "is_move", "is_move", defArgs s_is_move, defBody s_is_move, defScope s_is_move, [], []⟩
def d_depth_of : He5.DefA := ⟨fun K => He.ga K "depth_of", "depth_of", "depth_of", defArgs s_depth_of, defBody s_depth_of, defScope s_depth_of, [], []⟩
def d_carried : He5.DefA := ⟨fun K => He.ga K "carried", "carried", "carried", defArgs s_carried, defBody s_carried, defScope s_carried, [], []⟩
def d_moved : He5.DefA := ⟨fun K => He.ga K "moved", "moved", "moved", defArgs s_moved, defBody s_moved, defScope s_moved, [], []⟩
def d_need_played : He5.DefA := ⟨fun K => He.ga K "need_played", "need_played", "need_played", defArgs s_need_played, defBody s_need_played, defScope s_need_played, [], []⟩
def d_ruled : He5.DefA := ⟨fun K => He.ga K "ruled", "ruled", "ruled", defArgs s_ruled, defBody s_ruled, defScope s_ruled, [], []⟩
def d_trimmed : He5.DefA := ⟨fun K => He.ga K "trimmed", "trimmed", "trimmed", defArgs s_trimmed, defBody s_trimmed, defScope s_trimmed, [], []⟩
def d_image_counts : He5.DefA := ⟨fun K => He.ga K "image_counts", "image_counts", "image_counts", defArgs s_image_counts, defBody s_image_counts, defScope s_image_counts, [], []⟩
def d_are_parts : He5.DefA := ⟨fun K => He.ga K "are_parts", "are_parts", "are_parts", defArgs s_are_parts, defBody s_are_parts, defScope s_are_parts, [], []⟩
def d_end_entry : He5.DefA := ⟨fun K => He.ga K "end_entry", "end_entry", "end_entry", defArgs s_end_entry, defBody s_end_entry, defScope s_end_entry, [], []⟩
def d_move_parts : He5.DefA := ⟨fun K => He.ga K "move_parts", "move_parts", "move_parts", defArgs s_move_parts, defBody s_move_parts, defScope s_move_parts, [], []⟩
def d_form_of : He5.DefA := ⟨fun K => He.ga K "form_of", "form_of", "form_of", defArgs s_form_of, defBody s_form_of, defScope s_form_of, [], []⟩
def d_settled : He5.DefA := ⟨fun K => He.ga K "settled", "settled", "settled", defArgs s_settled, defBody s_settled, defScope s_settled, [], []⟩
def d_total : He5.DefA := ⟨fun K => He.ga K "total", "total", "total", defArgs s_total, defBody s_total, defScope s_total, [], []⟩
def d_need_spot : He5.DefA := ⟨fun K => He.ga K "need_spot", "need_spot", "need_spot", defArgs s_need_spot, defBody s_need_spot, defScope s_need_spot, [], []⟩
def d_way : He5.DefA := ⟨fun K => He.ga K "way", "way", "way", defArgs s_way, defBody s_way, defScope s_way, [], []⟩
def d_seen_at : He5.DefA := ⟨fun K => He.ga K "seen_at", "seen_at", "seen_at", defArgs s_seen_at, defBody s_seen_at, defScope s_seen_at, [], []⟩
def d_met : He5.DefA := ⟨fun K => He.ga K "met", "met", "met", defArgs s_met, defBody s_met, defScope s_met, [], []⟩
def d_meeting : He5.DefA := ⟨fun K => He.ga K "meeting", "meeting", "meeting", defArgs s_meeting, defBody s_meeting, defScope s_meeting, [], [("turned", .non)]⟩
def d_wish : He5.DefA := ⟨fun K => He.ga K "wish", "wish", "wish", defArgs s_wish, defBody s_wish, defScope s_wish, [], []⟩
def d_need_rounds : He5.DefA := ⟨fun K => He.ga K "need_rounds", "need_rounds", "need_rounds", defArgs s_need_rounds, defBody s_need_rounds, defScope s_need_rounds, [], []⟩
def d_found_after : He5.DefA := ⟨fun K => He.ga K "found_after", "found_after", "found_after", defArgs s_found_after, defBody s_found_after, defScope s_found_after, [], []⟩
def d_after : He5.DefA := ⟨fun K => He.ga K "after", "after", "after", defArgs s_after, defBody s_after, defScope s_after, [], []⟩
def d_L_bag : He5.DefA := ⟨fun K => He.ga K "_law_bag", "_law_bag", "_law_bag", defArgs s_L_bag, defBody s_L_bag, defScope s_L_bag, [], []⟩
def d_L_pull : He5.DefA := ⟨fun K => He.ga K "_law_pull", "_law_pull", "_law_pull", defArgs s_L_pull, defBody s_L_pull, defScope s_L_pull, [], []⟩
def d_L_of : He5.DefA := ⟨fun K => He.ga K "_law_of", "_law_of", "_law_of", defArgs s_L_of, defBody s_L_of, defScope s_L_of, [], []⟩
def d_L_same : He5.DefA := ⟨fun K => He.ga K "_law_same", "_law_same", "_law_same", defArgs s_L_same, defBody s_L_same, defScope s_L_same, [], []⟩
def d_L_end : He5.DefA := ⟨fun K => He.ga K "_law_end", "_law_end", "_law_end", defArgs s_L_end, defBody s_L_end, defScope s_L_end, [], []⟩
def d_L_move : He5.DefA := ⟨fun K => He.ga K "_law_move", "_law_move", "_law_move", defArgs s_L_move, defBody s_L_move, defScope s_L_move, [], []⟩
def d_L_moves : He5.DefA := ⟨fun K => He.ga K "_law_moves", "_law_moves", "_law_moves", defArgs s_L_moves, defBody s_L_moves, defScope s_L_moves, [], []⟩
def d_L_made : He5.DefA := ⟨fun K => He.ga K "_law_made", "_law_made", "_law_made", defArgs s_L_made, defBody s_L_made, defScope s_L_made, [], []⟩
def d_L_great : He5.DefA := ⟨fun K => He.ga K "_law_great", "_law_great", "_law_great", defArgs s_L_great, defBody s_L_great, defScope s_L_great, [], []⟩
def d_L_place_of : He5.DefA := ⟨fun K => He.ga K "_law_place_of", "_law_place_of", "_law_place_of", defArgs s_L_place_of, defBody s_L_place_of, defScope s_L_place_of, [], []⟩
def d_L_gcd : He5.DefA := ⟨fun K => He.ga K "_law_gcd", "_law_gcd", "_law_gcd", defArgs s_L_gcd, defBody s_L_gcd, defScope s_L_gcd, [], []⟩
def d_L_lcm : He5.DefA := ⟨fun K => He.ga K "_law_lcm", "_law_lcm", "_law_lcm", defArgs s_L_lcm, defBody s_L_lcm, defScope s_L_lcm, [], []⟩
def d_law : He5.DefA := ⟨fun K => He.ga K "law", "law", "law", defArgs s_law, defBody s_law, defScope s_law, [], []⟩
def d_Word_init : He5.DefA := ⟨fun K => He.ma K (He.ga K "Word") "__init__", "__init__", "Word.__init__", defArgs s_Word_init, defBody s_Word_init, defScope s_Word_init, [], []⟩
def d_Word_reach : He5.DefA := ⟨fun K => He5.wf K (He.ga K "Word") "property" "reach", "reach", "Word.reach", defArgs s_Word_reach, defBody s_Word_reach, defScope s_Word_reach, [], []⟩
def d_Word_moves : He5.DefA := ⟨fun K => He.ma K (He.ga K "Word") "moves", "moves", "Word.moves", defArgs s_Word_moves, defBody s_Word_moves, defScope s_Word_moves, [], []⟩
def d_Word_sent : He5.DefA := ⟨fun K => He.ma K (He.ga K "Word") "sent", "sent", "Word.sent", defArgs s_Word_sent, defBody s_Word_sent, defScope s_Word_sent, [], []⟩
def d_Word_play : He5.DefA := ⟨fun K => He.ma K (He.ga K "Word") "play", "play", "Word.play", defArgs s_Word_play, defBody s_Word_play, defScope s_Word_play, [], []⟩
def d_Word_add : He5.DefA := ⟨fun K => He.ma K (He.ga K "Word") "__add__", "__add__", "Word.__add__", defArgs s_Word_add, defBody s_Word_add, defScope s_Word_add, [], []⟩
def d_Form_init : He5.DefA := ⟨fun K => He.ma K (He.ga K "Form") "__init__", "__init__", "Form.__init__", defArgs s_Form_init, defBody s_Form_init, defScope s_Form_init, [], []⟩
def d_Form_still : He5.DefA := ⟨fun K => He5.wf K (He.ga K "Form") "staticmethod" "still", "still", "Form.still", defArgs s_Form_still, defBody s_Form_still, defScope s_Form_still, [], []⟩
def d_Form_of : He5.DefA := ⟨fun K => He5.wf K (He.ga K "Form") "classmethod" "of", "of", "Form.of", defArgs s_Form_of, defBody s_Form_of, defScope s_Form_of, [], []⟩
def d_Form_turned : He5.DefA := ⟨fun K => He5.wf K (He.ga K "Form") "property" "turned", "turned", "Form.turned", defArgs s_Form_turned, defBody s_Form_turned, defScope s_Form_turned, [], []⟩
def d_Form_shift : He5.DefA := ⟨fun K => He5.wf K (He.ga K "Form") "property" "shift", "shift", "Form.shift", defArgs s_Form_shift, defBody s_Form_shift, defScope s_Form_shift, [], []⟩
def d_Form_least : He5.DefA := ⟨fun K => He5.wf K (He.ga K "Form") "property" "least", "least", "Form.least", defArgs s_Form_least, defBody s_Form_least, defScope s_Form_least, [], []⟩
def d_Form_top : He5.DefA := ⟨fun K => He.ma K (He.ga K "Form") "top", "top", "Form.top", defArgs s_Form_top, defBody s_Form_top, defScope s_Form_top, [], []⟩
def d_Form_bottom : He5.DefA := ⟨fun K => He.ma K (He.ga K "Form") "bottom", "bottom", "Form.bottom", defArgs s_Form_bottom, defBody s_Form_bottom, defScope s_Form_bottom, [], []⟩
def d_Form_entry : He5.DefA := ⟨fun K => He.ma K (He.ga K "Form") "entry", "entry", "Form.entry", defArgs s_Form_entry, defBody s_Form_entry, defScope s_Form_entry, [], []⟩
def d_Form_sent : He5.DefA := ⟨fun K => He.ma K (He.ga K "Form") "sent", "sent", "Form.sent", defArgs s_Form_sent, defBody s_Form_sent, defScope s_Form_sent, [], []⟩
def d_Form_need_least : He5.DefA := ⟨fun K => He.ma K (He.ga K "Form") "need_least", "need_least", "Form.need_least", defArgs s_Form_need_least, defBody s_Form_need_least, defScope s_Form_need_least, [], []⟩
def d_Form_listed : He5.DefA := ⟨fun K => He.ma K (He.ga K "Form") "listed", "listed", "Form.listed", defArgs s_Form_listed, defBody s_Form_listed, defScope s_Form_listed, [], []⟩
def d_Form_reached : He5.DefA := ⟨fun K => He.ma K (He.ga K "Form") "reached", "reached", "Form.reached", defArgs s_Form_reached, defBody s_Form_reached, defScope s_Form_reached, [], []⟩
def d_Form_followed : He5.DefA := ⟨fun K => He.ma K (He.ga K "Form") "followed", "followed", "Form.followed", defArgs s_Form_followed, defBody s_Form_followed, defScope s_Form_followed, [], []⟩
def d_Form_mul : He5.DefA := ⟨fun K => He.ma K (He.ga K "Form") "__mul__", "__mul__", "Form.__mul__", defArgs s_Form_mul, defBody s_Form_mul, defScope s_Form_mul, [], []⟩
def d_Track_init : He5.DefA := ⟨fun K => He.ma K (He.ga K "Track") "__init__", "__init__", "Track.__init__", defArgs s_Track_init, defBody s_Track_init, defScope s_Track_init, [], []⟩
def d_Track_is_middle : He5.DefA := ⟨fun K => He.ma K (He.ga K "Track") "is_middle", "is_middle", "Track.is_middle", defArgs s_Track_is_middle, defBody s_Track_is_middle, defScope s_Track_is_middle, [], []⟩
def d_Track_run_length : He5.DefA := ⟨fun K => He.ma K (He.ga K "Track") "run_length", "run_length", "Track.run_length", defArgs s_Track_run_length, defBody s_Track_run_length, defScope s_Track_run_length, [], []⟩
def d_Track_pieces : He5.DefA := ⟨fun K => He.ma K (He.ga K "Track") "pieces", "pieces", "Track.pieces", defArgs s_Track_pieces, defBody s_Track_pieces, defScope s_Track_pieces, [], []⟩
def fnL : List He5.DefA := [d_greatest_divisor, d_reciprocal, d_agree, d_joined, d_need_size, d_need_place, d_placed, d_is_item, d_is_move, d_depth_of, d_carried, d_moved, d_need_played, d_ruled, d_trimmed, d_image_counts, d_are_parts, d_end_entry, d_move_parts, d_form_of, d_settled, d_total, d_need_spot, d_way, d_seen_at, d_met, d_meeting, d_wish, d_need_rounds, d_found_after, d_after, d_L_bag, d_L_pull, d_L_of, d_L_same, d_L_end, d_L_move, d_L_moves, d_L_made, d_L_great, d_L_place_of, d_L_gcd, d_L_lcm, d_law, d_Word_init, d_Word_reach, d_Word_moves, d_Word_sent, d_Word_play, d_Word_add, d_Form_init, d_Form_still, d_Form_of, d_Form_turned, d_Form_shift, d_Form_least, d_Form_top, d_Form_bottom, d_Form_entry, d_Form_sent, d_Form_need_least, d_Form_listed, d_Form_reached, d_Form_followed, d_Form_mul, d_Track_init, d_Track_is_middle, d_Track_run_length, d_Track_pieces]
def faL : List He.Fa := [.glo "greatest_divisor", .glo "reciprocal", .glo "agree", .glo "joined", .glo "need_size", .glo "need_place", .glo "placed", .glo "is_item", .glo "is_move", .glo "depth_of", .glo "carried", .glo "moved", .glo "need_played", .glo "ruled", .glo "trimmed", .glo "image_counts", .glo "are_parts", .glo "end_entry", .glo "move_parts", .glo "form_of", .glo "settled", .glo "total", .glo "need_spot", .glo "way", .glo "seen_at", .glo "met", .glo "meeting", .glo "wish", .glo "need_rounds", .glo "found_after", .glo "after", .glo "_law_bag", .glo "_law_pull", .glo "_law_of", .glo "_law_same", .glo "_law_end", .glo "_law_move", .glo "_law_moves", .glo "_law_made", .glo "_law_great", .glo "_law_place_of", .glo "_law_gcd", .glo "_law_lcm", .glo "law", .glo "Word", .glo "Form", .glo "Track", .glo "ENDS", .glo "SHAPES", .free "abs", .free "all", .free "divmod", .free "enumerate", .free "int", .free "isinstance", .free "len", .free "list", .free "max", .free "min", .free "range", .free "sorted", .free "sum", .free "tuple", .free "zip", .free "dict", .free "bool", .free "str", .int "MOST_CARDS" 1000000000000000000000000000000, .int "MOST_ROUNDS" 1000000000000000000000000000000, .int "MOST_BLOCK" 400, .int "MOST_DEPTH" 399, .int "MOST_PLAYED" 1000, .cls "Word", .mkr "Word", .noat "Word" "steps", .meth "Word" "__init__", .meth "Word" "moves", .meth "Word" "sent", .meth "Word" "play", .meth "Word" "__add__", .cls "Form", .mkr "Form", .noat "Form" "faced", .noat "Form" "moved_by", .noat "Form" "first", .noat "Form" "last", .meth "Form" "__init__", .meth "Form" "top", .meth "Form" "bottom", .meth "Form" "entry", .meth "Form" "sent", .meth "Form" "need_least", .meth "Form" "listed", .meth "Form" "reached", .meth "Form" "followed", .meth "Form" "__mul__", .cls "Track", .mkr "Track", .noat "Track" "word", .noat "Track" "size", .noat "Track" "form", .noat "Track" "is_great", .noat "Track" "low", .noat "Track" "high", .meth "Track" "__init__", .meth "Track" "is_middle", .meth "Track" "run_length", .meth "Track" "pieces"]
/-- a property of a class -/
def propB (K : PySem.W.Frag) (C f : Str) : Bool := He.eqO (PySem.W.findIn K (.ref (He.ga K C)) f) (some (some (.ref (He.ma K (He.ga K C) f)))) && (He.eqO (PySem.W.specialIn K (.ref (He.ma K (He.ga K C) f)) "__get__") (some (some (.builtin "property.__get__"))) &&
  (decide (PySem.W.takesIn K (.ref (He.ma K (He.ga K C) f)) = some true) && (match PySem.W.recIn K (He.ma K (He.ga K C) f) "property" with
    | some (.ref _ :: _) => true
    | _ => false)))
theorem propB_ok {K : PySem.W.Frag} {C f : Str} (h : propB K C f = true) : PropOf K (He.ga K C) f (He.ma K (He.ga K C) f) (He5.wf K (He.ga K C) "property" f) := by
  obtain ⟨h1, h⟩ := He.ba h
  obtain ⟨h2, h⟩ := He.ba h
  obtain ⟨h3, h4⟩ := He.ba h
  refine ⟨He.eqO_ok h1, He.eqO_ok h2, of_decide_eq_true h3, ?_⟩
  unfold He5.wf
  split at h4
  · rename_i g r e
    exact ⟨r, by rw [e]⟩
  · cases h4
def exL : List (PySem.W.Frag → Bool) := [fun K => propB K "Word" "reach",
  fun K => propB K "Form" "turned",
  fun K => propB K "Form" "shift",
  fun K => propB K "Form" "least",
  fun K => He5.wrapB K (He.ga K "Form") "staticmethod" "staticmethod.__get__" "still",
  fun K => He5.wrapB K (He.ga K "Form") "classmethod" "classmethod.__get__" "of" && PySem.W.fnIn K (He5.wf K (He.ga K "Form") "classmethod" "of"),
  fun K => PySem.W.readsIn K (He.ga K "Form") (.type "type"),
  fun K => PySem.W.selfFirst K (He.ga K "Word"),
  fun K => PySem.W.selfFirst K (He.ga K "Form"),
  fun K => He.conB K "Word" "MOST_MOVES" (.int 40),
  fun K => He.conB K "Word" "MOST_REACH" (.int 60),
  fun K => He.conB K "Form" "WIDEST" (.int 400),
  fun K => He.valsB K (He.ga K "ENDS") [("top", .str "t"), ("bottom", .str "b")],
  fun K => He.valsB K (He.ga K "SHAPES") [("swap", .str "pp"), ("carry", .str "pp"), ("cut", .str "k"), ("turn", .str "eb"), ("over", .str ""), ("face", .str "p")]]
def tbL : List He.Tab := [(fun K => He.ga K "ENDS", ["top", "bottom"]), (fun K => He.ga K "SHAPES", ["swap", "carry", "cut", "turn", "over", "face"])]
def namesL1 : List Str := ["greatest_divisor", "reciprocal", "agree", "joined", "need_size", "need_place", "placed", "is_item", "is_move", "depth_of", "carried", "moved", "need_played", "ruled", "trimmed", "image_counts", "are_parts", "end_entry", "move_parts", "form_of", "settled", "total", "need_spot", "way", "seen_at"]
def namesL2 : List Str := ["met", "meeting", "wish", "need_rounds", "found_after", "after", "_law_bag", "_law_pull", "_law_of", "_law_same", "_law_end", "_law_move", "_law_moves", "_law_made", "_law_great", "_law_place_of", "_law_gcd", "_law_lcm", "law", "Word", "Form", "Track", "ENDS", "SHAPES"]
def namesL : List Str := namesL1 ++ namesL2
def clsL : List Str := ["Word", "Form", "Track"]
abbrev AlP : Type := He.AlD × List (Option (List (Option (Str × Int)))) × Bool
def obsP (K : PySem.W.Frag) : AlP := (He5.obsA faL fnL K, tbL.map fun t => He.dicW K (t.1 K), exL.all fun f => f K)
def valP (w : World) : AlP := (He5.valA fnL, tbL.map fun t => some (He.keysIn w.params t.2), true)
def SaysP (w : World) (K : PySem.W.Frag) : Prop := obsP K = valP w
/-- the objects that are looked at: the names', the classes' dicts, what stands there, the codes -/
def refsL (g : Addr → Option Obj) (as : List Addr) : List Addr := as.flatMap fun a => match g a with
  | some o => He.refsD o
  | none => []
/-- a list of addresses made out -/
def frA {b : Type} : List Addr → (List Addr → b) → b
  | [], k => k []
  | a :: r, k => HandSHeadRun.frNat a fun a => frA r fun r => k (a :: r)
theorem frA_eq {b : Type} : ∀ (l : List Addr) (k : List Addr → b), frA l k = k l
  | [], _ => rfl
  | a :: r, k => by
    show HandSHeadRun.frNat a (fun a => frA r fun r => k (a :: r)) = _
    rw [HandSHeadRun.frNat_eq, frA_eq r]
def frK {b : Type} : PySem.W.Frag → (PySem.W.Frag → b) → b
  | [], k => k []
  | (a, o) :: r, k => HandSHeadRun.frNat a fun a => frK r fun r => k ((a, o) :: r)
theorem frK_eq {b : Type} : ∀ (l : PySem.W.Frag) (k : PySem.W.Frag → b), frK l k = k l
  | [], _ => rfl
  | (a, o) :: r, k => by
    show HandSHeadRun.frNat a (fun a => frK r fun r => k ((a, o) :: r)) = _
    rw [HandSHeadRun.frNat_eq, frK_eq r]
def adrP {b : Type} (g : Addr → Option Obj) (k : List Addr → b) : b :=
  frK (He.frG g [mainGlobals]) fun K0 => frA (namesL.map (He.ga K0)) fun l1 => frA (refsL g (clsL.map (He.ga K0))) fun l2 => frA (refsL g l2) fun l3 => frA (refsL g l1) fun l4 => frA (refsL g l3) fun l5 => frA (refsL g l5) fun l6 =>
    k (mainGlobals :: (l1 ++ (l2 ++ (l3 ++ (l4 ++ (l5 ++ (l6 ++ [cStatics])))))))
def obsF (g : Addr → Option Obj) : AlP := adrP g fun as => frK (He.frG g as) obsP
theorem obsF_K (g : Addr → Option Obj) : ∃ as, obsF g = obsP (He.frG g as) := by
  unfold obsF adrP
  simp only [frA_eq, frK_eq]
  exact ⟨_, rfl⟩
def hookP : PySem.W.Hook where
  α := AlP
  obs := fun s => obsF s.heap.get?
  val := fun w => valP w
  says := fun w h => ∃ K : PySem.W.Frag, K.In h ∧ SaysP w K
  of := fun _ s e => by
    obtain ⟨as, h⟩ := obsF_K s.heap.get?
    exact ⟨_, He.frG_in (as := as), h.symm.trans e⟩
  keeps := fun _ _ _ ⟨K, hK, c⟩ k => ⟨K, PySem.W.Frag.In.keeps hK k, c⟩
def obP (s : PySem.W.SharedT) : AlP := obsF (HandSHeadRun.getT s)
theorem obP_eq (s : PySem.W.SharedT) : obP s = hookP.obs s.abs := by
  have e : HandSHeadRun.getT s = s.abs.heap.get? := funext (HandSHeadRun.getT_eq s)
  show obsF (HandSHeadRun.getT s) = obsF s.abs.heap.get?
  rw [e]
/-- what the walk leans on: the written part, the module's names -/
structure Tx (w : World) (K : PySem.W.Frag) (mg : Str → Option Value) : Prop where
  says : SaysP w K
  ns : ∃ h : Heap, K.In h ∧ h.Ns mainGlobals mg
section
variable {w : World} {K : PySem.W.Frag} {mg : Str → Option Value}
theorem Tx.a (T : Tx w K mg) : He5.SaysA faL fnL K := congrArg (fun z : AlP => z.1) T.says
theorem Tx.fact (T : Tx w K mg) (i : Nat) {f : He.Fa} (h : faL[i]? = some f := by rfl) : f.ok K = true := T.a.fact i h
theorem Tx.more (T : Tx w K mg) (i : Nat) {f : PySem.W.Frag → Bool} (h : exL[i]? = some f := by rfl) : f K = true := by
  have c : (exL.all fun f => f K) = true := congrArg (fun z : AlP => z.2.2) T.says
  exact List.all_eq_true.mp c f (List.mem_of_getElem? h)
theorem Tx.tab (T : Tx w K mg) (i : Nat) {t : He.Tab} (h : tbL[i]? = some t := by rfl) : ∃ es n, KDict K w (t.1 K) es n := by
  have e : tbL.map (fun t => He.dicW K (t.1 K)) = tbL.map fun t => some (He.keysIn w.params t.2) := congrArg (fun z : AlP => z.2.1) T.says
  have e2 : (tbL.map fun t => He.dicW K (t.1 K))[i]? = (tbL.map fun t => some (He.keysIn w.params t.2))[i]? := by rw [e]
  rw [List.getElem?_map, List.getElem?_map, h] at e2
  exact He.dicW_ok (Option.some.inj e2)
theorem Tx.glo (T : Tx w K mg) {x : Str} (c : (He.Fa.glo x).ok K = true) : mg x = some (.ref (He.ga K x)) := let ⟨_, X, G⟩ := T.ns; He.glo_ok X G c
theorem Tx.free (T : Tx w K mg) {x : Str} (c : (He.Fa.free x).ok K = true) : mg x = none := let ⟨_, X, G⟩ := T.ns; He.free_ok X G c
theorem Tx.int (T : Tx w K mg) {x : Str} {i : Int} (c : (He.Fa.int x i).ok K = true) : ∃ t, mg x = some (.int i t) := let ⟨_, X, G⟩ := T.ns; He.int_ok X G c
theorem Tx.g_greatest_divisor (T : Tx w K mg) : mg "greatest_divisor" = some (.ref (He.ga K "greatest_divisor")) := T.glo (T.fact 0)
theorem Tx.g_reciprocal (T : Tx w K mg) : mg "reciprocal" = some (.ref (He.ga K "reciprocal")) := T.glo (T.fact 1)
theorem Tx.g_agree (T : Tx w K mg) : mg "agree" = some (.ref (He.ga K "agree")) := T.glo (T.fact 2)
theorem Tx.g_joined (T : Tx w K mg) : mg "joined" = some (.ref (He.ga K "joined")) := T.glo (T.fact 3)
theorem Tx.g_need_size (T : Tx w K mg) : mg "need_size" = some (.ref (He.ga K "need_size")) := T.glo (T.fact 4)
theorem Tx.g_need_place (T : Tx w K mg) : mg "need_place" = some (.ref (He.ga K "need_place")) := T.glo (T.fact 5)
theorem Tx.g_placed (T : Tx w K mg) : mg "placed" = some (.ref (He.ga K "placed")) := T.glo (T.fact 6)
theorem Tx.g_is_item (T : Tx w K mg) : mg "is_item" = some (.ref (He.ga K "is_item")) := T.glo (T.fact 7)
theorem Tx.g_is_move (T : Tx w K mg) : mg "is_move" = some (.ref (He.ga K "is_move")) := T.glo (T.fact 8)
theorem Tx.g_depth_of (T : Tx w K mg) : mg "depth_of" = some (.ref (He.ga K "depth_of")) := T.glo (T.fact 9)
theorem Tx.g_carried (T : Tx w K mg) : mg "carried" = some (.ref (He.ga K "carried")) := T.glo (T.fact 10)
theorem Tx.g_moved (T : Tx w K mg) : mg "moved" = some (.ref (He.ga K "moved")) := T.glo (T.fact 11)
theorem Tx.g_need_played (T : Tx w K mg) : mg "need_played" = some (.ref (He.ga K "need_played")) := T.glo (T.fact 12)
theorem Tx.g_ruled (T : Tx w K mg) : mg "ruled" = some (.ref (He.ga K "ruled")) := T.glo (T.fact 13)
theorem Tx.g_trimmed (T : Tx w K mg) : mg "trimmed" = some (.ref (He.ga K "trimmed")) := T.glo (T.fact 14)
theorem Tx.g_image_counts (T : Tx w K mg) : mg "image_counts" = some (.ref (He.ga K "image_counts")) := T.glo (T.fact 15)
theorem Tx.g_are_parts (T : Tx w K mg) : mg "are_parts" = some (.ref (He.ga K "are_parts")) := T.glo (T.fact 16)
theorem Tx.g_end_entry (T : Tx w K mg) : mg "end_entry" = some (.ref (He.ga K "end_entry")) := T.glo (T.fact 17)
theorem Tx.g_move_parts (T : Tx w K mg) : mg "move_parts" = some (.ref (He.ga K "move_parts")) := T.glo (T.fact 18)
theorem Tx.g_form_of (T : Tx w K mg) : mg "form_of" = some (.ref (He.ga K "form_of")) := T.glo (T.fact 19)
theorem Tx.g_settled (T : Tx w K mg) : mg "settled" = some (.ref (He.ga K "settled")) := T.glo (T.fact 20)
theorem Tx.g_total (T : Tx w K mg) : mg "total" = some (.ref (He.ga K "total")) := T.glo (T.fact 21)
theorem Tx.g_need_spot (T : Tx w K mg) : mg "need_spot" = some (.ref (He.ga K "need_spot")) := T.glo (T.fact 22)
theorem Tx.g_way (T : Tx w K mg) : mg "way" = some (.ref (He.ga K "way")) := T.glo (T.fact 23)
theorem Tx.g_seen_at (T : Tx w K mg) : mg "seen_at" = some (.ref (He.ga K "seen_at")) := T.glo (T.fact 24)
theorem Tx.g_met (T : Tx w K mg) : mg "met" = some (.ref (He.ga K "met")) := T.glo (T.fact 25)
theorem Tx.g_meeting (T : Tx w K mg) : mg "meeting" = some (.ref (He.ga K "meeting")) := T.glo (T.fact 26)
theorem Tx.g_wish (T : Tx w K mg) : mg "wish" = some (.ref (He.ga K "wish")) := T.glo (T.fact 27)
theorem Tx.g_need_rounds (T : Tx w K mg) : mg "need_rounds" = some (.ref (He.ga K "need_rounds")) := T.glo (T.fact 28)
theorem Tx.g_found_after (T : Tx w K mg) : mg "found_after" = some (.ref (He.ga K "found_after")) := T.glo (T.fact 29)
theorem Tx.g_after (T : Tx w K mg) : mg "after" = some (.ref (He.ga K "after")) := T.glo (T.fact 30)
theorem Tx.g_L_bag (T : Tx w K mg) : mg "_law_bag" = some (.ref (He.ga K "_law_bag")) := T.glo (T.fact 31)
theorem Tx.g_L_pull (T : Tx w K mg) : mg "_law_pull" = some (.ref (He.ga K "_law_pull")) := T.glo (T.fact 32)
theorem Tx.g_L_of (T : Tx w K mg) : mg "_law_of" = some (.ref (He.ga K "_law_of")) := T.glo (T.fact 33)
theorem Tx.g_L_same (T : Tx w K mg) : mg "_law_same" = some (.ref (He.ga K "_law_same")) := T.glo (T.fact 34)
theorem Tx.g_L_end (T : Tx w K mg) : mg "_law_end" = some (.ref (He.ga K "_law_end")) := T.glo (T.fact 35)
theorem Tx.g_L_move (T : Tx w K mg) : mg "_law_move" = some (.ref (He.ga K "_law_move")) := T.glo (T.fact 36)
theorem Tx.g_L_moves (T : Tx w K mg) : mg "_law_moves" = some (.ref (He.ga K "_law_moves")) := T.glo (T.fact 37)
theorem Tx.g_L_made (T : Tx w K mg) : mg "_law_made" = some (.ref (He.ga K "_law_made")) := T.glo (T.fact 38)
theorem Tx.g_L_great (T : Tx w K mg) : mg "_law_great" = some (.ref (He.ga K "_law_great")) := T.glo (T.fact 39)
theorem Tx.g_L_place_of (T : Tx w K mg) : mg "_law_place_of" = some (.ref (He.ga K "_law_place_of")) := T.glo (T.fact 40)
theorem Tx.g_L_gcd (T : Tx w K mg) : mg "_law_gcd" = some (.ref (He.ga K "_law_gcd")) := T.glo (T.fact 41)
theorem Tx.g_L_lcm (T : Tx w K mg) : mg "_law_lcm" = some (.ref (He.ga K "_law_lcm")) := T.glo (T.fact 42)
theorem Tx.g_law (T : Tx w K mg) : mg "law" = some (.ref (He.ga K "law")) := T.glo (T.fact 43)
theorem Tx.g_Word (T : Tx w K mg) : mg "Word" = some (.ref (He.ga K "Word")) := T.glo (T.fact 44)
theorem Tx.g_Form (T : Tx w K mg) : mg "Form" = some (.ref (He.ga K "Form")) := T.glo (T.fact 45)
theorem Tx.g_Track (T : Tx w K mg) : mg "Track" = some (.ref (He.ga K "Track")) := T.glo (T.fact 46)
theorem Tx.g_ENDS (T : Tx w K mg) : mg "ENDS" = some (.ref (He.ga K "ENDS")) := T.glo (T.fact 47)
theorem Tx.g_SHAPES (T : Tx w K mg) : mg "SHAPES" = some (.ref (He.ga K "SHAPES")) := T.glo (T.fact 48)
theorem Tx.f_abs (T : Tx w K mg) : mg "abs" = none := T.free (T.fact 49)
theorem Tx.f_all (T : Tx w K mg) : mg "all" = none := T.free (T.fact 50)
theorem Tx.f_divmod (T : Tx w K mg) : mg "divmod" = none := T.free (T.fact 51)
theorem Tx.f_enumerate (T : Tx w K mg) : mg "enumerate" = none := T.free (T.fact 52)
theorem Tx.f_int (T : Tx w K mg) : mg "int" = none := T.free (T.fact 53)
theorem Tx.f_isinstance (T : Tx w K mg) : mg "isinstance" = none := T.free (T.fact 54)
theorem Tx.f_len (T : Tx w K mg) : mg "len" = none := T.free (T.fact 55)
theorem Tx.f_list (T : Tx w K mg) : mg "list" = none := T.free (T.fact 56)
theorem Tx.f_max (T : Tx w K mg) : mg "max" = none := T.free (T.fact 57)
theorem Tx.f_min (T : Tx w K mg) : mg "min" = none := T.free (T.fact 58)
theorem Tx.f_range (T : Tx w K mg) : mg "range" = none := T.free (T.fact 59)
theorem Tx.f_sorted (T : Tx w K mg) : mg "sorted" = none := T.free (T.fact 60)
theorem Tx.f_sum (T : Tx w K mg) : mg "sum" = none := T.free (T.fact 61)
theorem Tx.f_tuple (T : Tx w K mg) : mg "tuple" = none := T.free (T.fact 62)
theorem Tx.f_zip (T : Tx w K mg) : mg "zip" = none := T.free (T.fact 63)
theorem Tx.f_dict (T : Tx w K mg) : mg "dict" = none := T.free (T.fact 64)
theorem Tx.f_bool (T : Tx w K mg) : mg "bool" = none := T.free (T.fact 65)
theorem Tx.f_str (T : Tx w K mg) : mg "str" = none := T.free (T.fact 66)
theorem Tx.i_MOST_CARDS (T : Tx w K mg) : ∃ t, mg "MOST_CARDS" = some (.int 1000000000000000000000000000000 t) := T.int (T.fact 67)
theorem Tx.i_MOST_ROUNDS (T : Tx w K mg) : ∃ t, mg "MOST_ROUNDS" = some (.int 1000000000000000000000000000000 t) := T.int (T.fact 68)
theorem Tx.i_MOST_BLOCK (T : Tx w K mg) : ∃ t, mg "MOST_BLOCK" = some (.int 400 t) := T.int (T.fact 69)
theorem Tx.i_MOST_DEPTH (T : Tx w K mg) : ∃ t, mg "MOST_DEPTH" = some (.int 399 t) := T.int (T.fact 70)
theorem Tx.i_MOST_PLAYED (T : Tx w K mg) : ∃ t, mg "MOST_PLAYED" = some (.int 1000 t) := T.int (T.fact 71)
theorem Tx.cl_Word (T : Tx w K mg) : Cls K (He.ga K "Word") := He.cls_ok (T.fact 72)
theorem Tx.mk_Word (T : Tx w K mg) : Mk K (He.ga K "Word") (He.ma K (He.ga K "Word") "__init__") := He.mkr_ok (T.fact 73)
theorem Tx.no_Word_steps (T : Tx w K mg) : NoAttr K (He.ga K "Word") "steps" := He.noat_ok (T.fact 74)
theorem Tx.me_Word_init (T : Tx w K mg) : Meth K (He.ga K "Word") "__init__" (He.ma K (He.ga K "Word") "__init__") := He.meth_ok (T.fact 75)
theorem Tx.me_Word_moves (T : Tx w K mg) : Meth K (He.ga K "Word") "moves" (He.ma K (He.ga K "Word") "moves") := He.meth_ok (T.fact 76)
theorem Tx.me_Word_sent (T : Tx w K mg) : Meth K (He.ga K "Word") "sent" (He.ma K (He.ga K "Word") "sent") := He.meth_ok (T.fact 77)
theorem Tx.me_Word_play (T : Tx w K mg) : Meth K (He.ga K "Word") "play" (He.ma K (He.ga K "Word") "play") := He.meth_ok (T.fact 78)
theorem Tx.me_Word_add (T : Tx w K mg) : Meth K (He.ga K "Word") "__add__" (He.ma K (He.ga K "Word") "__add__") := He.meth_ok (T.fact 79)
theorem Tx.cl_Form (T : Tx w K mg) : Cls K (He.ga K "Form") := He.cls_ok (T.fact 80)
theorem Tx.mk_Form (T : Tx w K mg) : Mk K (He.ga K "Form") (He.ma K (He.ga K "Form") "__init__") := He.mkr_ok (T.fact 81)
theorem Tx.no_Form_faced (T : Tx w K mg) : NoAttr K (He.ga K "Form") "faced" := He.noat_ok (T.fact 82)
theorem Tx.no_Form_moved_by (T : Tx w K mg) : NoAttr K (He.ga K "Form") "moved_by" := He.noat_ok (T.fact 83)
theorem Tx.no_Form_first (T : Tx w K mg) : NoAttr K (He.ga K "Form") "first" := He.noat_ok (T.fact 84)
theorem Tx.no_Form_last (T : Tx w K mg) : NoAttr K (He.ga K "Form") "last" := He.noat_ok (T.fact 85)
theorem Tx.me_Form_init (T : Tx w K mg) : Meth K (He.ga K "Form") "__init__" (He.ma K (He.ga K "Form") "__init__") := He.meth_ok (T.fact 86)
theorem Tx.me_Form_top (T : Tx w K mg) : Meth K (He.ga K "Form") "top" (He.ma K (He.ga K "Form") "top") := He.meth_ok (T.fact 87)
theorem Tx.me_Form_bottom (T : Tx w K mg) : Meth K (He.ga K "Form") "bottom" (He.ma K (He.ga K "Form") "bottom") := He.meth_ok (T.fact 88)
theorem Tx.me_Form_entry (T : Tx w K mg) : Meth K (He.ga K "Form") "entry" (He.ma K (He.ga K "Form") "entry") := He.meth_ok (T.fact 89)
theorem Tx.me_Form_sent (T : Tx w K mg) : Meth K (He.ga K "Form") "sent" (He.ma K (He.ga K "Form") "sent") := He.meth_ok (T.fact 90)
theorem Tx.me_Form_need_least (T : Tx w K mg) : Meth K (He.ga K "Form") "need_least" (He.ma K (He.ga K "Form") "need_least") := He.meth_ok (T.fact 91)
theorem Tx.me_Form_listed (T : Tx w K mg) : Meth K (He.ga K "Form") "listed" (He.ma K (He.ga K "Form") "listed") := He.meth_ok (T.fact 92)
theorem Tx.me_Form_reached (T : Tx w K mg) : Meth K (He.ga K "Form") "reached" (He.ma K (He.ga K "Form") "reached") := He.meth_ok (T.fact 93)
theorem Tx.me_Form_followed (T : Tx w K mg) : Meth K (He.ga K "Form") "followed" (He.ma K (He.ga K "Form") "followed") := He.meth_ok (T.fact 94)
theorem Tx.me_Form_mul (T : Tx w K mg) : Meth K (He.ga K "Form") "__mul__" (He.ma K (He.ga K "Form") "__mul__") := He.meth_ok (T.fact 95)
theorem Tx.cl_Track (T : Tx w K mg) : Cls K (He.ga K "Track") := He.cls_ok (T.fact 96)
theorem Tx.mk_Track (T : Tx w K mg) : Mk K (He.ga K "Track") (He.ma K (He.ga K "Track") "__init__") := He.mkr_ok (T.fact 97)
theorem Tx.no_Track_word (T : Tx w K mg) : NoAttr K (He.ga K "Track") "word" := He.noat_ok (T.fact 98)
theorem Tx.no_Track_size (T : Tx w K mg) : NoAttr K (He.ga K "Track") "size" := He.noat_ok (T.fact 99)
theorem Tx.no_Track_form (T : Tx w K mg) : NoAttr K (He.ga K "Track") "form" := He.noat_ok (T.fact 100)
theorem Tx.no_Track_is_great (T : Tx w K mg) : NoAttr K (He.ga K "Track") "is_great" := He.noat_ok (T.fact 101)
theorem Tx.no_Track_low (T : Tx w K mg) : NoAttr K (He.ga K "Track") "low" := He.noat_ok (T.fact 102)
theorem Tx.no_Track_high (T : Tx w K mg) : NoAttr K (He.ga K "Track") "high" := He.noat_ok (T.fact 103)
theorem Tx.me_Track_init (T : Tx w K mg) : Meth K (He.ga K "Track") "__init__" (He.ma K (He.ga K "Track") "__init__") := He.meth_ok (T.fact 104)
theorem Tx.me_Track_is_middle (T : Tx w K mg) : Meth K (He.ga K "Track") "is_middle" (He.ma K (He.ga K "Track") "is_middle") := He.meth_ok (T.fact 105)
theorem Tx.me_Track_run_length (T : Tx w K mg) : Meth K (He.ga K "Track") "run_length" (He.ma K (He.ga K "Track") "run_length") := He.meth_ok (T.fact 106)
theorem Tx.me_Track_pieces (T : Tx w K mg) : Meth K (He.ga K "Track") "pieces" (He.ma K (He.ga K "Track") "pieces") := He.meth_ok (T.fact 107)
theorem Tx.pr_Word_reach (T : Tx w K mg) : PropOf K (He.ga K "Word") "reach" (He.ma K (He.ga K "Word") "reach") (He5.wf K (He.ga K "Word") "property" "reach") := propB_ok (T.more 0)
theorem Tx.pr_Form_turned (T : Tx w K mg) : PropOf K (He.ga K "Form") "turned" (He.ma K (He.ga K "Form") "turned") (He5.wf K (He.ga K "Form") "property" "turned") := propB_ok (T.more 1)
theorem Tx.pr_Form_shift (T : Tx w K mg) : PropOf K (He.ga K "Form") "shift" (He.ma K (He.ga K "Form") "shift") (He5.wf K (He.ga K "Form") "property" "shift") := propB_ok (T.more 2)
theorem Tx.pr_Form_least (T : Tx w K mg) : PropOf K (He.ga K "Form") "least" (He.ma K (He.ga K "Form") "least") (He5.wf K (He.ga K "Form") "property" "least") := propB_ok (T.more 3)
theorem Tx.st_Form_still (T : Tx w K mg) : (fun K => He5.wrapB K (He.ga K "Form") "staticmethod" "staticmethod.__get__" "still") K = true := T.more 4
theorem Tx.cm_Form_of (T : Tx w K mg) : (fun K => He5.wrapB K (He.ga K "Form") "classmethod" "classmethod.__get__" "of" && PySem.W.fnIn K (He5.wf K (He.ga K "Form") "classmethod" "of")) K = true := T.more 5
theorem Tx.rd_Form (T : Tx w K mg) : (fun K => PySem.W.readsIn K (He.ga K "Form") (.type "type")) K = true := T.more 6
theorem Tx.self_Word (T : Tx w K mg) : (fun K => PySem.W.selfFirst K (He.ga K "Word")) K = true := T.more 7
theorem Tx.self_Form (T : Tx w K mg) : (fun K => PySem.W.selfFirst K (He.ga K "Form")) K = true := T.more 8
theorem Tx.co_Word_MOST_MOVES (T : Tx w K mg) : (fun K => He.conB K "Word" "MOST_MOVES" (.int 40)) K = true := T.more 9
theorem Tx.co_Word_MOST_REACH (T : Tx w K mg) : (fun K => He.conB K "Word" "MOST_REACH" (.int 60)) K = true := T.more 10
theorem Tx.co_Form_WIDEST (T : Tx w K mg) : (fun K => He.conB K "Form" "WIDEST" (.int 400)) K = true := T.more 11
theorem Tx.va_ENDS (T : Tx w K mg) : (fun K => He.valsB K (He.ga K "ENDS") [("top", .str "t"), ("bottom", .str "b")]) K = true := T.more 12
theorem Tx.va_SHAPES (T : Tx w K mg) : (fun K => He.valsB K (He.ga K "SHAPES") [("swap", .str "pp"), ("carry", .str "pp"), ("cut", .str "k"), ("turn", .str "eb"), ("over", .str ""), ("face", .str "p")]) K = true := T.more 13
theorem Tx.d_greatest_divisor (T : Tx w K mg) : ∃ fd, FunD K "greatest_divisor" "greatest_divisor" (defArgs s_greatest_divisor) (defBody s_greatest_divisor) (defScope s_greatest_divisor) [] [] (He.ga K "greatest_divisor") fd := T.a.def_ 0 (d := Pp.d_greatest_divisor) rfl
theorem Tx.d_reciprocal (T : Tx w K mg) : ∃ fd, FunD K "reciprocal" "reciprocal" (defArgs s_reciprocal) (defBody s_reciprocal) (defScope s_reciprocal) [] [] (He.ga K "reciprocal") fd := T.a.def_ 1 (d := Pp.d_reciprocal) rfl
theorem Tx.d_agree (T : Tx w K mg) : ∃ fd, FunD K "agree" "agree" (defArgs s_agree) (defBody s_agree) (defScope s_agree) [] [] (He.ga K "agree") fd := T.a.def_ 2 (d := Pp.d_agree) rfl
theorem Tx.d_joined (T : Tx w K mg) : ∃ fd, FunD K "joined" "joined" (defArgs s_joined) (defBody s_joined) (defScope s_joined) [] [] (He.ga K "joined") fd := T.a.def_ 3 (d := Pp.d_joined) rfl
theorem Tx.d_need_size (T : Tx w K mg) : ∃ fd, FunD K "need_size" "need_size" (defArgs s_need_size) (defBody s_need_size) (defScope s_need_size) [] [] (He.ga K "need_size") fd := T.a.def_ 4 (d := Pp.d_need_size) rfl
theorem Tx.d_need_place (T : Tx w K mg) : ∃ fd, FunD K "need_place" "need_place" (defArgs s_need_place) (defBody s_need_place) (defScope s_need_place) [] [] (He.ga K "need_place") fd := T.a.def_ 5 (d := Pp.d_need_place) rfl
theorem Tx.d_placed (T : Tx w K mg) : ∃ fd, FunD K "placed" "placed" (defArgs s_placed) (defBody s_placed) (defScope s_placed) [] [] (He.ga K "placed") fd := T.a.def_ 6 (d := Pp.d_placed) rfl
theorem Tx.d_is_item (T : Tx w K mg) : ∃ fd, FunD K "is_item" "is_item" (defArgs s_is_item) (defBody s_is_item) (defScope s_is_item) [] [] (He.ga K "is_item") fd := T.a.def_ 7 (d := Pp.d_is_item) rfl
theorem Tx.d_is_move (T : Tx w K mg) : ∃ fd, FunD K "is_move" "is_move" (defArgs s_is_move) (defBody s_is_move) (defScope s_is_move) [] [] (He.ga K "is_move") fd := T.a.def_ 8 (d := Pp.d_is_move) rfl
theorem Tx.d_depth_of (T : Tx w K mg) : ∃ fd, FunD K "depth_of" "depth_of" (defArgs s_depth_of) (defBody s_depth_of) (defScope s_depth_of) [] [] (He.ga K "depth_of") fd := T.a.def_ 9 (d := Pp.d_depth_of) rfl
theorem Tx.d_carried (T : Tx w K mg) : ∃ fd, FunD K "carried" "carried" (defArgs s_carried) (defBody s_carried) (defScope s_carried) [] [] (He.ga K "carried") fd := T.a.def_ 10 (d := Pp.d_carried) rfl
theorem Tx.d_moved (T : Tx w K mg) : ∃ fd, FunD K "moved" "moved" (defArgs s_moved) (defBody s_moved) (defScope s_moved) [] [] (He.ga K "moved") fd := T.a.def_ 11 (d := Pp.d_moved) rfl
theorem Tx.d_need_played (T : Tx w K mg) : ∃ fd, FunD K "need_played" "need_played" (defArgs s_need_played) (defBody s_need_played) (defScope s_need_played) [] [] (He.ga K "need_played") fd := T.a.def_ 12 (d := Pp.d_need_played) rfl
theorem Tx.d_ruled (T : Tx w K mg) : ∃ fd, FunD K "ruled" "ruled" (defArgs s_ruled) (defBody s_ruled) (defScope s_ruled) [] [] (He.ga K "ruled") fd := T.a.def_ 13 (d := Pp.d_ruled) rfl
theorem Tx.d_trimmed (T : Tx w K mg) : ∃ fd, FunD K "trimmed" "trimmed" (defArgs s_trimmed) (defBody s_trimmed) (defScope s_trimmed) [] [] (He.ga K "trimmed") fd := T.a.def_ 14 (d := Pp.d_trimmed) rfl
theorem Tx.d_image_counts (T : Tx w K mg) : ∃ fd, FunD K "image_counts" "image_counts" (defArgs s_image_counts) (defBody s_image_counts) (defScope s_image_counts) [] [] (He.ga K "image_counts") fd := T.a.def_ 15 (d := Pp.d_image_counts) rfl
theorem Tx.d_are_parts (T : Tx w K mg) : ∃ fd, FunD K "are_parts" "are_parts" (defArgs s_are_parts) (defBody s_are_parts) (defScope s_are_parts) [] [] (He.ga K "are_parts") fd := T.a.def_ 16 (d := Pp.d_are_parts) rfl
theorem Tx.d_end_entry (T : Tx w K mg) : ∃ fd, FunD K "end_entry" "end_entry" (defArgs s_end_entry) (defBody s_end_entry) (defScope s_end_entry) [] [] (He.ga K "end_entry") fd := T.a.def_ 17 (d := Pp.d_end_entry) rfl
theorem Tx.d_move_parts (T : Tx w K mg) : ∃ fd, FunD K "move_parts" "move_parts" (defArgs s_move_parts) (defBody s_move_parts) (defScope s_move_parts) [] [] (He.ga K "move_parts") fd := T.a.def_ 18 (d := Pp.d_move_parts) rfl
theorem Tx.d_form_of (T : Tx w K mg) : ∃ fd, FunD K "form_of" "form_of" (defArgs s_form_of) (defBody s_form_of) (defScope s_form_of) [] [] (He.ga K "form_of") fd := T.a.def_ 19 (d := Pp.d_form_of) rfl
theorem Tx.d_settled (T : Tx w K mg) : ∃ fd, FunD K "settled" "settled" (defArgs s_settled) (defBody s_settled) (defScope s_settled) [] [] (He.ga K "settled") fd := T.a.def_ 20 (d := Pp.d_settled) rfl
theorem Tx.d_total (T : Tx w K mg) : ∃ fd, FunD K "total" "total" (defArgs s_total) (defBody s_total) (defScope s_total) [] [] (He.ga K "total") fd := T.a.def_ 21 (d := Pp.d_total) rfl
theorem Tx.d_need_spot (T : Tx w K mg) : ∃ fd, FunD K "need_spot" "need_spot" (defArgs s_need_spot) (defBody s_need_spot) (defScope s_need_spot) [] [] (He.ga K "need_spot") fd := T.a.def_ 22 (d := Pp.d_need_spot) rfl
theorem Tx.d_way (T : Tx w K mg) : ∃ fd, FunD K "way" "way" (defArgs s_way) (defBody s_way) (defScope s_way) [] [] (He.ga K "way") fd := T.a.def_ 23 (d := Pp.d_way) rfl
theorem Tx.d_seen_at (T : Tx w K mg) : ∃ fd, FunD K "seen_at" "seen_at" (defArgs s_seen_at) (defBody s_seen_at) (defScope s_seen_at) [] [] (He.ga K "seen_at") fd := T.a.def_ 24 (d := Pp.d_seen_at) rfl
theorem Tx.d_met (T : Tx w K mg) : ∃ fd, FunD K "met" "met" (defArgs s_met) (defBody s_met) (defScope s_met) [] [] (He.ga K "met") fd := T.a.def_ 25 (d := Pp.d_met) rfl
theorem Tx.d_meeting (T : Tx w K mg) : ∃ fd, FunD K "meeting" "meeting" (defArgs s_meeting) (defBody s_meeting) (defScope s_meeting) [] [("turned", V.non)] (He.ga K "meeting") fd := T.a.def_ 26 (d := Pp.d_meeting) rfl
theorem Tx.d_wish (T : Tx w K mg) : ∃ fd, FunD K "wish" "wish" (defArgs s_wish) (defBody s_wish) (defScope s_wish) [] [] (He.ga K "wish") fd := T.a.def_ 27 (d := Pp.d_wish) rfl
theorem Tx.d_need_rounds (T : Tx w K mg) : ∃ fd, FunD K "need_rounds" "need_rounds" (defArgs s_need_rounds) (defBody s_need_rounds) (defScope s_need_rounds) [] [] (He.ga K "need_rounds") fd := T.a.def_ 28 (d := Pp.d_need_rounds) rfl
theorem Tx.d_found_after (T : Tx w K mg) : ∃ fd, FunD K "found_after" "found_after" (defArgs s_found_after) (defBody s_found_after) (defScope s_found_after) [] [] (He.ga K "found_after") fd := T.a.def_ 29 (d := Pp.d_found_after) rfl
theorem Tx.d_after (T : Tx w K mg) : ∃ fd, FunD K "after" "after" (defArgs s_after) (defBody s_after) (defScope s_after) [] [] (He.ga K "after") fd := T.a.def_ 30 (d := Pp.d_after) rfl
theorem Tx.d_L_bag (T : Tx w K mg) : ∃ fd, FunD K "_law_bag" "_law_bag" (defArgs s_L_bag) (defBody s_L_bag) (defScope s_L_bag) [] [] (He.ga K "_law_bag") fd := T.a.def_ 31 (d := Pp.d_L_bag) rfl
theorem Tx.d_L_pull (T : Tx w K mg) : ∃ fd, FunD K "_law_pull" "_law_pull" (defArgs s_L_pull) (defBody s_L_pull) (defScope s_L_pull) [] [] (He.ga K "_law_pull") fd := T.a.def_ 32 (d := Pp.d_L_pull) rfl
theorem Tx.d_L_of (T : Tx w K mg) : ∃ fd, FunD K "_law_of" "_law_of" (defArgs s_L_of) (defBody s_L_of) (defScope s_L_of) [] [] (He.ga K "_law_of") fd := T.a.def_ 33 (d := Pp.d_L_of) rfl
theorem Tx.d_L_same (T : Tx w K mg) : ∃ fd, FunD K "_law_same" "_law_same" (defArgs s_L_same) (defBody s_L_same) (defScope s_L_same) [] [] (He.ga K "_law_same") fd := T.a.def_ 34 (d := Pp.d_L_same) rfl
theorem Tx.d_L_end (T : Tx w K mg) : ∃ fd, FunD K "_law_end" "_law_end" (defArgs s_L_end) (defBody s_L_end) (defScope s_L_end) [] [] (He.ga K "_law_end") fd := T.a.def_ 35 (d := Pp.d_L_end) rfl
theorem Tx.d_L_move (T : Tx w K mg) : ∃ fd, FunD K "_law_move" "_law_move" (defArgs s_L_move) (defBody s_L_move) (defScope s_L_move) [] [] (He.ga K "_law_move") fd := T.a.def_ 36 (d := Pp.d_L_move) rfl
theorem Tx.d_L_moves (T : Tx w K mg) : ∃ fd, FunD K "_law_moves" "_law_moves" (defArgs s_L_moves) (defBody s_L_moves) (defScope s_L_moves) [] [] (He.ga K "_law_moves") fd := T.a.def_ 37 (d := Pp.d_L_moves) rfl
theorem Tx.d_L_made (T : Tx w K mg) : ∃ fd, FunD K "_law_made" "_law_made" (defArgs s_L_made) (defBody s_L_made) (defScope s_L_made) [] [] (He.ga K "_law_made") fd := T.a.def_ 38 (d := Pp.d_L_made) rfl
theorem Tx.d_L_great (T : Tx w K mg) : ∃ fd, FunD K "_law_great" "_law_great" (defArgs s_L_great) (defBody s_L_great) (defScope s_L_great) [] [] (He.ga K "_law_great") fd := T.a.def_ 39 (d := Pp.d_L_great) rfl
theorem Tx.d_L_place_of (T : Tx w K mg) : ∃ fd, FunD K "_law_place_of" "_law_place_of" (defArgs s_L_place_of) (defBody s_L_place_of) (defScope s_L_place_of) [] [] (He.ga K "_law_place_of") fd := T.a.def_ 40 (d := Pp.d_L_place_of) rfl
theorem Tx.d_L_gcd (T : Tx w K mg) : ∃ fd, FunD K "_law_gcd" "_law_gcd" (defArgs s_L_gcd) (defBody s_L_gcd) (defScope s_L_gcd) [] [] (He.ga K "_law_gcd") fd := T.a.def_ 41 (d := Pp.d_L_gcd) rfl
theorem Tx.d_L_lcm (T : Tx w K mg) : ∃ fd, FunD K "_law_lcm" "_law_lcm" (defArgs s_L_lcm) (defBody s_L_lcm) (defScope s_L_lcm) [] [] (He.ga K "_law_lcm") fd := T.a.def_ 42 (d := Pp.d_L_lcm) rfl
theorem Tx.d_law (T : Tx w K mg) : ∃ fd, FunD K "law" "law" (defArgs s_law) (defBody s_law) (defScope s_law) [] [] (He.ga K "law") fd := T.a.def_ 43 (d := Pp.d_law) rfl
theorem Tx.d_Word_init (T : Tx w K mg) : ∃ fd, FunD K "__init__" "Word.__init__" (defArgs s_Word_init) (defBody s_Word_init) (defScope s_Word_init) [] [] (He.ma K (He.ga K "Word") "__init__") fd := T.a.def_ 44 (d := Pp.d_Word_init) rfl
theorem Tx.d_Word_reach (T : Tx w K mg) : ∃ fd, FunD K "reach" "Word.reach" (defArgs s_Word_reach) (defBody s_Word_reach) (defScope s_Word_reach) [] [] (He5.wf K (He.ga K "Word") "property" "reach") fd := T.a.def_ 45 (d := Pp.d_Word_reach) rfl
theorem Tx.d_Word_moves (T : Tx w K mg) : ∃ fd, FunD K "moves" "Word.moves" (defArgs s_Word_moves) (defBody s_Word_moves) (defScope s_Word_moves) [] [] (He.ma K (He.ga K "Word") "moves") fd := T.a.def_ 46 (d := Pp.d_Word_moves) rfl
theorem Tx.d_Word_sent (T : Tx w K mg) : ∃ fd, FunD K "sent" "Word.sent" (defArgs s_Word_sent) (defBody s_Word_sent) (defScope s_Word_sent) [] [] (He.ma K (He.ga K "Word") "sent") fd := T.a.def_ 47 (d := Pp.d_Word_sent) rfl
theorem Tx.d_Word_play (T : Tx w K mg) : ∃ fd, FunD K "play" "Word.play" (defArgs s_Word_play) (defBody s_Word_play) (defScope s_Word_play) [] [] (He.ma K (He.ga K "Word") "play") fd := T.a.def_ 48 (d := Pp.d_Word_play) rfl
theorem Tx.d_Word_add (T : Tx w K mg) : ∃ fd, FunD K "__add__" "Word.__add__" (defArgs s_Word_add) (defBody s_Word_add) (defScope s_Word_add) [] [] (He.ma K (He.ga K "Word") "__add__") fd := T.a.def_ 49 (d := Pp.d_Word_add) rfl
theorem Tx.d_Form_init (T : Tx w K mg) : ∃ fd, FunD K "__init__" "Form.__init__" (defArgs s_Form_init) (defBody s_Form_init) (defScope s_Form_init) [] [] (He.ma K (He.ga K "Form") "__init__") fd := T.a.def_ 50 (d := Pp.d_Form_init) rfl
theorem Tx.d_Form_still (T : Tx w K mg) : ∃ fd, FunD K "still" "Form.still" (defArgs s_Form_still) (defBody s_Form_still) (defScope s_Form_still) [] [] (He5.wf K (He.ga K "Form") "staticmethod" "still") fd := T.a.def_ 51 (d := Pp.d_Form_still) rfl
theorem Tx.d_Form_of (T : Tx w K mg) : ∃ fd, FunD K "of" "Form.of" (defArgs s_Form_of) (defBody s_Form_of) (defScope s_Form_of) [] [] (He5.wf K (He.ga K "Form") "classmethod" "of") fd := T.a.def_ 52 (d := Pp.d_Form_of) rfl
theorem Tx.d_Form_turned (T : Tx w K mg) : ∃ fd, FunD K "turned" "Form.turned" (defArgs s_Form_turned) (defBody s_Form_turned) (defScope s_Form_turned) [] [] (He5.wf K (He.ga K "Form") "property" "turned") fd := T.a.def_ 53 (d := Pp.d_Form_turned) rfl
theorem Tx.d_Form_shift (T : Tx w K mg) : ∃ fd, FunD K "shift" "Form.shift" (defArgs s_Form_shift) (defBody s_Form_shift) (defScope s_Form_shift) [] [] (He5.wf K (He.ga K "Form") "property" "shift") fd := T.a.def_ 54 (d := Pp.d_Form_shift) rfl
theorem Tx.d_Form_least (T : Tx w K mg) : ∃ fd, FunD K "least" "Form.least" (defArgs s_Form_least) (defBody s_Form_least) (defScope s_Form_least) [] [] (He5.wf K (He.ga K "Form") "property" "least") fd := T.a.def_ 55 (d := Pp.d_Form_least) rfl
theorem Tx.d_Form_top (T : Tx w K mg) : ∃ fd, FunD K "top" "Form.top" (defArgs s_Form_top) (defBody s_Form_top) (defScope s_Form_top) [] [] (He.ma K (He.ga K "Form") "top") fd := T.a.def_ 56 (d := Pp.d_Form_top) rfl
theorem Tx.d_Form_bottom (T : Tx w K mg) : ∃ fd, FunD K "bottom" "Form.bottom" (defArgs s_Form_bottom) (defBody s_Form_bottom) (defScope s_Form_bottom) [] [] (He.ma K (He.ga K "Form") "bottom") fd := T.a.def_ 57 (d := Pp.d_Form_bottom) rfl
theorem Tx.d_Form_entry (T : Tx w K mg) : ∃ fd, FunD K "entry" "Form.entry" (defArgs s_Form_entry) (defBody s_Form_entry) (defScope s_Form_entry) [] [] (He.ma K (He.ga K "Form") "entry") fd := T.a.def_ 58 (d := Pp.d_Form_entry) rfl
theorem Tx.d_Form_sent (T : Tx w K mg) : ∃ fd, FunD K "sent" "Form.sent" (defArgs s_Form_sent) (defBody s_Form_sent) (defScope s_Form_sent) [] [] (He.ma K (He.ga K "Form") "sent") fd := T.a.def_ 59 (d := Pp.d_Form_sent) rfl
theorem Tx.d_Form_need_least (T : Tx w K mg) : ∃ fd, FunD K "need_least" "Form.need_least" (defArgs s_Form_need_least) (defBody s_Form_need_least) (defScope s_Form_need_least) [] [] (He.ma K (He.ga K "Form") "need_least") fd := T.a.def_ 60 (d := Pp.d_Form_need_least) rfl
theorem Tx.d_Form_listed (T : Tx w K mg) : ∃ fd, FunD K "listed" "Form.listed" (defArgs s_Form_listed) (defBody s_Form_listed) (defScope s_Form_listed) [] [] (He.ma K (He.ga K "Form") "listed") fd := T.a.def_ 61 (d := Pp.d_Form_listed) rfl
theorem Tx.d_Form_reached (T : Tx w K mg) : ∃ fd, FunD K "reached" "Form.reached" (defArgs s_Form_reached) (defBody s_Form_reached) (defScope s_Form_reached) [] [] (He.ma K (He.ga K "Form") "reached") fd := T.a.def_ 62 (d := Pp.d_Form_reached) rfl
theorem Tx.d_Form_followed (T : Tx w K mg) : ∃ fd, FunD K "followed" "Form.followed" (defArgs s_Form_followed) (defBody s_Form_followed) (defScope s_Form_followed) [] [] (He.ma K (He.ga K "Form") "followed") fd := T.a.def_ 63 (d := Pp.d_Form_followed) rfl
theorem Tx.d_Form_mul (T : Tx w K mg) : ∃ fd, FunD K "__mul__" "Form.__mul__" (defArgs s_Form_mul) (defBody s_Form_mul) (defScope s_Form_mul) [] [] (He.ma K (He.ga K "Form") "__mul__") fd := T.a.def_ 64 (d := Pp.d_Form_mul) rfl
theorem Tx.d_Track_init (T : Tx w K mg) : ∃ fd, FunD K "__init__" "Track.__init__" (defArgs s_Track_init) (defBody s_Track_init) (defScope s_Track_init) [] [] (He.ma K (He.ga K "Track") "__init__") fd := T.a.def_ 65 (d := Pp.d_Track_init) rfl
theorem Tx.d_Track_is_middle (T : Tx w K mg) : ∃ fd, FunD K "is_middle" "Track.is_middle" (defArgs s_Track_is_middle) (defBody s_Track_is_middle) (defScope s_Track_is_middle) [] [] (He.ma K (He.ga K "Track") "is_middle") fd := T.a.def_ 66 (d := Pp.d_Track_is_middle) rfl
theorem Tx.d_Track_run_length (T : Tx w K mg) : ∃ fd, FunD K "run_length" "Track.run_length" (defArgs s_Track_run_length) (defBody s_Track_run_length) (defScope s_Track_run_length) [] [] (He.ma K (He.ga K "Track") "run_length") fd := T.a.def_ 67 (d := Pp.d_Track_run_length) rfl
theorem Tx.d_Track_pieces (T : Tx w K mg) : ∃ fd, FunD K "pieces" "Track.pieces" (defArgs s_Track_pieces) (defBody s_Track_pieces) (defScope s_Track_pieces) [] [] (He.ma K (He.ga K "Track") "pieces") fd := T.a.def_ 68 (d := Pp.d_Track_pieces) rfl
theorem Tx.t_ENDS (T : Tx w K mg) : ∃ es n, KDict K w (He.ga K "ENDS") es n := T.tab 0 (t := (fun K => He.ga K "ENDS", ["top", "bottom"])) rfl
theorem Tx.t_SHAPES (T : Tx w K mg) : ∃ es n, KDict K w (He.ga K "SHAPES") es n := T.tab 1 (t := (fun K => He.ga K "SHAPES", ["swap", "carry", "cut", "turn", "over", "face"])) rfl
end
end Pp

set_option Elab.async false
set_option linter.all false
set_option maxRecDepth 100000
set_option maxHeartbeats 0
namespace Pp
open PySem PySem.Spec PyProof.Rows L2
abbrev RowR : PySem.W.OpenRow := PySem.W.OpenLaw.row PySem.Challenge.rw_pileports_k51_whole_wishes_are_met
abbrev viewQ : Program := PySem.W.view RowR.prog [90]
def nm0 : List PySem.Str := ["_wall", "__name__", "PileError", "BadPlace", "BadMove", "BadText", "TooLong", "BadForm", "TooWide", "BadSize", "TooGreat", "TooSmall", "NoPlace", "BadRounds", "greatest_divisor", "reciprocal", "agree", "joined", "MOST_DEPTH", "MOST_CARDS", "MOST_DIGITS", "ENDS", "DIGITS", "need_size", "need_place", "need_end_place", "placed", "natural", "integer", "place_text"]
def nm1 : List PySem.Str := ["place_in", "MOST_BLOCK", "SHAPES", "is_item", "is_move", "depth_of", "item_text", "written", "item_in", "move_in", "carried", "moved", "MOST_PLAYED", "need_played", "Word", "ruled", "trimmed", "image_counts", "are_parts", "end_entry", "move_parts", "entry_text", "entry_in", "Form", "form_of", "settled", "Track", "total", "need_spot", "way"]
def nm2 : List PySem.Str := ["seen_at", "met", "meeting", "wish", "MOST_ROUNDS", "need_rounds", "found_after", "after", "_law_bag", "_law_pull", "_law_of", "_law_same", "_law_end", "_law_move", "_law_moves", "_law_made", "_law_great", "_law_place_of", "_law_gcd", "_law_lcm"]
def looseN : List PySem.Str := nm0 ++ nm1 ++ nm2
theorem run_f (w : World) : HandSHeadRun.RunEq RowR viewQ hookP obP 9000 looseN (w.withFollow "special-get-raises" false) := by
  intro os
  kernel_rfl
theorem run_t (w : World) : HandSHeadRun.RunEq RowR viewQ hookP obP 9000 looseN (w.withFollow "special-get-raises" true) := by
  intro os
  kernel_rfl
theorem run (w : World) : HandSHeadRun.RunEq RowR viewQ hookP obP 9000 looseN w := PySem.W.byRow2 "special-get-raises" (P := fun w => HandSHeadRun.RunEq RowR viewQ hookP obP 9000 looseN w) run_f run_t w
end Pp

set_option Elab.async false
set_option linter.all false
set_option maxRecDepth 100000
set_option maxHeartbeats 2000000
namespace Pp
open PySem PySem.Spec PyProof.Rows L2

/-! ### a def keeps its promise -/
section
variable {P : Program} {w : World} {K : PySem.W.Frag} {mg : Str → Option Value} {base : Heap}
/-- a def without defaults: its body as a term, the term's reading -/
theorem mkR {x qual : Str} {params : Arguments} {body : List Stmt} {scope : Scope} {f : Addr} {N ps : List Str} {k : Nat} {sp : Sp} (F : ∃ fd, FunD K x qual params body scope [] [] f fd) (S : FnScope N ps scope)
    (b : ∀ (kV doc pm : Value) (an : Option Addr) (cdv ct : Value) (us : List Value), us.length = ps.length → bindArgs (PySem.W.fnOf x qual params body scope .none kV doc pm an cdv ct) ⟨us, []⟩ = pure (ps.zip us))
    (len : ∀ vs H Q E, sp vs H Q E → vs.length = ps.length)
    (hbody : ∀ (cdv : Value) (A : Around) (outer : List Env) (s : Shared) (H : Hp) (vs : List V) (Q : VK) (E : XK), Room k (A.deeper (envOfC qual scope s.heap.objs.size f cdv)) → sp vs H Q E →
      ∃ t, PSs (cxOf CX0 P w K mg base N qual scope f cdv A outer s H E).nox body t ∧ t { nx := fun _ H' => Q .non H', rt := Q } (start N vs) H) : FnR P w K mg base CX0 (k + 1) f sp := by
  obtain ⟨fd, F⟩ := F
  have F1 : FnOk P w K mg base CX0 (k + 1) f fd ps sp := F.ok S len fun cdv A outer s H vs Q E hr h => by
    obtain ⟨t, a, q⟩ := hbody cdv A outer s H vs Q E hr h
    exact ⟨t, a.nox, q⟩
  refine (F1.raw (F.bindsN b) .nil).imp fun vs H Q E h => ?_
  rw [List.append_nil]
  exact h
end
theorem kp_of {K : PySem.W.Frag} {x qual : Str} {params : Arguments} {body : List Stmt} {scope : Scope} {dvs : List V} {kws : List (Str × V)} {f : Addr} (F : ∃ fd, FunD K x qual params body scope dvs kws f fd) : PySem.W.keepIn K (.ref f) = true := let ⟨_, F⟩ := F; F.kp

section
variable {w : World} {K : PySem.W.Frag} {mg : Str → Option Value}
theorem cread_of (T : Tx w K mg) : ClX.CRead K (He.ga K "Form") (.type "type") := by
  have h : PySem.W.readsIn K (He.ga K "Form") (.type "type") = true := T.rd_Form
  refine ⟨h, ?_⟩
  unfold PySem.W.readsIn at h
  obtain ⟨h, _⟩ := He.ba h
  obtain ⟨h, _⟩ := He.ba h
  obtain ⟨h, h3⟩ := He.ba h
  obtain ⟨_, h2⟩ := He.ba h
  unfold PySem.W.specialIn
  rw [beq_iff_eq.mp h2, Option.bind_some]
  exact beq_iff_eq.mp h3
theorem cmet_of (T : Tx w K mg) : ClX.CMet K (He.ga K "Form") (.type "type") "of" (He.ma K (He.ga K "Form") "of") (He5.wf K (He.ga K "Form") "classmethod" "of") := by
  obtain ⟨h1, h2⟩ := He.ba (show (He5.wrapB K (He.ga K "Form") "classmethod" "classmethod.__get__" "of" && PySem.W.fnIn K (He5.wf K (He.ga K "Form") "classmethod" "of")) = true from T.cm_Form_of)
  obtain ⟨h3, h4⟩ := He5.wrapB_ok h1
  exact ⟨h3, h4, h2⟩
theorem smet_still (T : Tx w K mg) : SMet K (He.ga K "Form") (.type "type") "still" (He.ma K (He.ga K "Form") "still") (He5.wf K (He.ga K "Form") "staticmethod" "still") := by
  obtain ⟨h3, h4⟩ := He5.wrapB_ok (show He5.wrapB K (He.ga K "Form") "staticmethod" "staticmethod.__get__" "still" = true from T.st_Form_still)
  exact ⟨h3, h4, kp_of T.d_Form_still⟩
end

/-! ### what was tracked stays -/
def Ex (H H' : Hp) : Prop := ∀ a o, H a = some o → H' a = some o
theorem Ex.refl (H : Hp) : Ex H H := fun _ _ h => h
theorem Ex.trans {H H1 H2 : Hp} (a : Ex H H1) (b : Ex H1 H2) : Ex H H2 := fun x o h => b x o (a x o h)
theorem Ex.new {H : Hp} {p : Addr} {o : HO} (h : H p = none) : Ex H (upd H p o) := fun a u e => by
  rw [upd_ne (ne_of_none e h)]
  exact e
/-- an object that H does not know may change -/
theorem Ex.mut {H H' : Hp} {p : Addr} {o : HO} (e : Ex H H') (h : H p = none) : Ex H (upd H' p o) := fun a u ha => by
  rw [upd_ne (ne_of_none ha h)]
  exact e a u ha
theorem Ex.free {H H' : Hp} {p : Addr} (e : Ex H H') (h : H' p = none) : H p = none := by
  cases h1 : H p with
  | none => rfl
  | some o =>
    rw [e p o h1] at h
    cases h
theorem Ex.l {K : PySem.W.Frag} {H H' : Hp} {a : Addr} {xs : List V} (e : Ex H H') (h : SqL K H a xs) : SqL K H' a xs := by
  rcases h with (h | ⟨o, h⟩) | h
  · exact .inl (.inl (e _ _ h))
  · exact .inl (.inr ⟨o, e _ _ h⟩)
  · exact .inr h
theorem Ex.t {K : PySem.W.Frag} {H H' : Hp} {a : Addr} {xs : List V} (e : Ex H H') (h : SqT K H a xs) : SqT K H' a xs := by
  rcases h with (h | ⟨o, h⟩) | h
  · exact .inl (.inl (e _ _ h))
  · exact .inl (.inr ⟨o, e _ _ h⟩)
  · exact .inr h
/-- a new object -/
theorem newo {H : Hp} {o : HO} {Q : Addr → Hp → Prop} (h : ∀ p H1, H p = none → Ex H H1 → H1 p = some o → Q p H1) : ∀ p, H p = none → Q p (upd H p o) := fun p hp => h p _ hp (Ex.new hp) upd_same
theorem upd_facts {H H1 : Hp} {p : Addr} {o : HO} (n : H p = none) (hh : upd H p o = H1) : Ex H H1 ∧ H1 p = some o := by
  subst hh
  exact ⟨Ex.new n, upd_same⟩
/-- a new instance, ahead of its __init__ -/
theorem newi {H : Hp} {C : Addr} {Q : Addr → Addr → Hp → Prop} (h : ∀ x dx H1, H x = none → H dx = none → Ex H H1 → H1 x = some (.ins C dx []) → Q x dx H1) : ∀ x dx, H x = none → H dx = none → dx ≠ x → Q x dx (upd (upd H dx (.own x)) x (.ins C dx [])) := fun x dx hx hd hn =>
  h x dx _ hx hd ((Ex.new hd).trans (Ex.new (by rw [upd_ne (Ne.symm hn)]; exact hx))) upd_same
theorem sz4 {n : Nat} (h : n ≤ 100000) : n ≤ sizeLine := Nat.le_trans h (by decide)
theorem sz4' {n : Nat} (h : n < 100000) : n < sizeLine := Nat.lt_of_lt_of_le h (by decide)

/-! ### fields -/
theorem putF_nil {f : Str} {v : V} : putF f v [] = [(f, v)] := rfl
theorem putF_ne {f g : Str} {v u : V} {r : List (Str × V)} (h : ¬ g = f) : putF f v ((g, u) :: r) = (g, u) :: putF f v r := by
  show (if g = f then (g, v) :: r else (g, u) :: putF f v r) = _
  rw [if_neg h]
theorem lk_eq {f : Str} {v : V} {r : List (Str × V)} : ((f, v) :: r).lookup f = some v := by
  show (match f == f with | true => some v | false => r.lookup f) = some v
  rw [beq_self_eq_true]
theorem lk_ne {f g : Str} {v : V} {r : List (Str × V)} {o : Option V} (h : ¬ f = g) (e : r.lookup f = o) : ((g, v) :: r).lookup f = o := by
  show (match f == g with | true => some v | false => r.lookup f) = o
  rw [beq_false_of_ne h]
  exact e
theorem lk_nil {f : Str} : ([] : List (Str × V)).lookup f = none := rfl
end Pp

/-! the mirror: what each def computes, in plain Lean -/
namespace Pp
abbrev EP := Bool × Int
inductive Mv where
  | swap (a b : EP) | carry (a b : EP) | cut (k : Int) | turn (e : Bool) (k : Int) | over | face (a : EP)
def placedF (a : EP) (n : Int) : Int := if a.1 = true then a.2 else n - 1 - a.2
def Mv.depth : Mv → Int
  | .swap a b => (if b.2 > a.2 then b.2 else a.2) + 1
  | .carry a b => (if b.2 > a.2 then b.2 else a.2) + 1
  | .face a => a.2 + 1
  | .cut k => if k < 0 then -k else k
  | .turn _ k => k
  | .over => 0
def EP.ok (a : EP) : Prop := 0 ≤ a.2 ∧ a.2 ≤ 3
def Mv.ok : Mv → Prop
  | .swap a b => a.ok ∧ b.ok
  | .carry a b => a.ok ∧ b.ok
  | .face a => a.ok
  | .cut k => -4 ≤ k ∧ k ≤ 4
  | .turn _ k => 0 ≤ k ∧ k ≤ 4
  | .over => True
theorem Mv.depth_le : ∀ {m : Mv}, m.ok → 0 ≤ m.depth ∧ m.depth ≤ 4
  | .swap a b, h => by
    obtain ⟨⟨h1, h2⟩, h3, h4⟩ := h
    simp only [Mv.depth]
    split <;> omega
  | .carry a b, h => by
    obtain ⟨⟨h1, h2⟩, h3, h4⟩ := h
    simp only [Mv.depth]
    split <;> omega
  | .face a, h => by
    obtain ⟨h1, h2⟩ := h
    simp only [Mv.depth]
    omega
  | .cut k, h => by
    obtain ⟨h1, h2⟩ := h
    simp only [Mv.depth]
    split <;> omega
  | .turn e k, h => h
  | .over, _ => ⟨Int.le_refl 0, by decide⟩
def carriedF (s g p : Int) : Int := if p = s then g else if s < p ∧ p ≤ g then p - 1 else if g ≤ p ∧ p < s then p + 1 else p
def coreF (m : Mv) (n p : Int) : Int × Bool := match m with
  | .swap a b => if p = placedF a n then (placedF b n, false) else if p = placedF b n then (placedF a n, false) else (p, false)
  | .carry a b => (carriedF (placedF a n) (placedF b n) p, false)
  | .cut k => ((p - k) % n, false)
  | .turn e k => if (if e = true then p else n - 1 - p) < k then (placedF (e, k - 1 - (if e = true then p else n - 1 - p)) n, true) else (p, false)
  | .over => (n - 1 - p, true)
  | .face a => (p, decide (p = placedF a n))
def movedF (m : Mv) (n p : Int) : Int × Bool := if m.depth > n then (p, false) else coreF m n p
def sentL (n : Int) : List Mv → Int × Bool → Int × Bool
  | [], x => x
  | m :: r, x => sentL n r ((movedF m n x.1).1, x.2 != (movedF m n x.1).2)
def sentW (ws : List Mv) (n p : Int) : Int × Bool := sentL n ws (p, false)
def reachF (ws : List Mv) : Int := (ws.map Mv.depth).sum

structure Ent where
  e : Bool
  d : Int
  t : Bool
  deriving DecidableEq
def ruledF (t : Bool) (s : Int) (e : Bool) (d : Int) : Ent :=
  if t = true then (if e = true then ⟨false, d - s, true⟩ else ⟨true, d + s, true⟩) else ⟨e, if e = true then d + s else d - s, false⟩
def trimN (t : Bool) (s : Int) (e : Bool) (tab : List Ent) : Nat → Nat
  | 0 => 0
  | k + 1 => if tab[k]? = some (ruledF t s e k) then trimN t s e tab k else k + 1
def trimF (t : Bool) (s : Int) (e : Bool) (tab : List Ent) : List Ent := tab.take (trimN t s e tab tab.length)
def countsF (t : Bool) (s above below : Int) : Int × Int := if t = true then (below + s, above - s) else (above + s, below - s)
structure Fm where
  turned : Bool
  shift : Int
  top : List Ent
  bottom : List Ent
def endsL (top : Bool) (n : Int) : List (Bool × Int) := (List.range n.toNat).map fun (i : Nat) => (top, (i : Int))
def Fm.counts (F : Fm) : Int × Int := countsF F.turned F.shift F.top.length F.bottom.length
structure Fm.Parts (F : Fm) : Prop where
  above : 0 ≤ F.counts.1
  below : 0 ≤ F.counts.2
  perm : ((F.top ++ F.bottom).map fun x => (x.e, x.d)).Perm (endsL true F.counts.1 ++ endsL false F.counts.2)
def Fm.trim (F : Fm) : Fm := ⟨F.turned, F.shift, trimF F.turned F.shift true F.top, trimF F.turned F.shift false F.bottom⟩
def Fm.table (F : Fm) (e : Bool) : List Ent := if e = true then F.top else F.bottom
def Fm.entry (F : Fm) (e : Bool) (d : Int) : Ent := if d < (F.table e).length then (F.table e).getD d.toNat ⟨true, 0, false⟩ else ruledF F.turned F.shift e d
def resF (n : Int) (x : Ent) : Int × Bool := (if x.e = true then x.d else n - 1 - x.d, x.t)
def Fm.sent (F : Fm) (n p : Int) : Int × Bool := if p < F.top.length ∨ n - 1 - p ≥ F.bottom.length then resF n (F.entry true p) else resF n (F.entry false (n - 1 - p))
def mx (i j : Int) : Int := if j > i then j else i
def Fm.reached (F G : Fm) : Int × Int :=
  if F.turned = true then (mx F.top.length (G.bottom.length + F.shift), mx F.bottom.length (G.top.length - F.shift))
  else (mx F.top.length (G.top.length - F.shift), mx F.bottom.length (G.bottom.length + F.shift))
def Fm.followed (F G : Fm) (e : Bool) (d : Int) : Ent :=
  ⟨(G.entry (F.entry e d).e (F.entry e d).d).e, (G.entry (F.entry e d).e (F.entry e d).d).d, (F.entry e d).t != (G.entry (F.entry e d).e (F.entry e d).d).t⟩
def Fm.follows (F G : Fm) (e : Bool) (n : Int) : List Ent := (List.range n.toNat).map fun (i : Nat) => F.followed G e (i : Int)
/-- the product, as it is handed to the class -/
def Fm.mulR (F G : Fm) : Fm :=
  let t := F.turned != G.turned
  let s := G.shift + (if G.turned = true then -F.shift else F.shift)
  ⟨t, s, trimF t s true (F.follows G true (F.reached G).1), trimF t s false (F.follows G false (F.reached G).2)⟩
def endEntF (m : Mv) (n p : Int) : Ent := if (movedF m n p).1 < n / 2 then ⟨true, (movedF m n p).1, (movedF m n p).2⟩ else ⟨false, n - 1 - (movedF m n p).1, (movedF m n p).2⟩
def partsF (m : Mv) : Fm :=
  let d := m.depth
  let n := 4 * d + 3
  ⟨(movedF m n (2 * d + 1)).2, (movedF m n (2 * d + 1)).1 - (2 * d + 1), (List.range d.toNat).map fun (i : Nat) => endEntF m n (i : Int), (List.range d.toNat).map fun (i : Nat) => endEntF m n (n - 1 - (i : Int))⟩
def stillF : Fm := ⟨false, 0, [], []⟩
def formL : List Mv → Fm → Fm
  | [], F => F
  | m :: r, F => formL r ((F.mulR (partsF m).trim).trim)
def formF (ws : List Mv) : Fm := formL ws stillF

/-! ways -/
def Fm.mid (F : Fm) (n p : Int) : Bool := !F.turned && (!decide (F.shift = 0) && (decide ((F.top.length : Int) ≤ p) && decide (p < n - F.bottom.length)))
def runF (F : Fm) (n p start : Int) : Int :=
  let c := if 0 < F.shift then (n - F.bottom.length - p + F.shift - 1) / F.shift else (p - F.top.length) / (-F.shift) + 1
  if (start - p).fmod F.shift = 0 ∧ 0 < (start - p).fdiv F.shift ∧ (start - p).fdiv F.shift < c then (start - p).fdiv F.shift else c
structure Pc where
  first : Int
  step : Int
  count : Int
  turn : Bool
def stepF (ws : List Mv) (n start here : Int) : Pc × Int :=
  let F := formF ws
  if F.mid n here = true then (⟨here, F.shift, runF F n here start, false⟩, here + F.shift * runF F n here start)
  else (⟨here, 0, 1, (sentW ws n here).2⟩, (sentW ws n here).1)
def hereN (ws : List Mv) (n start : Int) : Nat → Int
  | 0 => start
  | k + 1 => (stepF ws n start (hereN ws n start k)).2
def pcN (ws : List Mv) (n start : Int) (k : Nat) : Pc := (stepF ws n start (hereN ws n start k)).1
/-- K turns come back to the start for the first time -/
structure Back (ws : List Mv) (n start : Int) (K : Nat) : Prop where
  pos : 0 < K
  back : hereN ws n start K = start
  first : ∀ j, 0 < j → j < K → hereN ws n start j ≠ start
def wayL (ws : List Mv) (n start : Int) (K : Nat) : List Pc := (List.range K).map (pcN ws n start)
def totalF : List Pc → Int × Bool → Int × Bool
  | [], x => x
  | c :: r, x => totalF r (x.1 + c.count, x.2 != c.turn)
def seenF (goal : Int) : List Pc → Int → Bool → Option (Int × Bool)
  | [], _, _ => none
  | c :: r, passed, t =>
    let a := if c.step = 0 then 0 else (goal - c.first).fdiv c.step
    if (0 ≤ a ∧ a < c.count) ∧ c.first + c.step * a = goal then some (passed + a, t) else seenF goal r (passed + c.count) (t != c.turn)
def foundF (place : Int) : List Pc → Int → Bool → Int × Bool
  | [], _, f => (place, f)
  | c :: r, ahead, f => if ahead < c.count then (c.first + c.step * ahead, f) else foundF place r (ahead - c.count) (f != c.turn)
def afterF (ps : List Pc) (place rounds : Int) : Int × Bool :=
  let t := totalF ps (0, false)
  foundF place ps (rounds % t.1) (t.2 && decide (rounds / t.1 % 2 = 1))
/-- a want's face: none, or asked -/
def metF (ps : List Pc) (goal : Int) (face : Option Bool) : Option (Int × Int) :=
  let t := totalF ps (0, false)
  match seenF goal ps 0 false with
  | none => none
  | some (r, f) => match face with
    | none => some (r, t.1)
    | some b => if t.2 = true then some (if f = b then r else r + t.1, 2 * t.1) else if f = b then some (r, t.1) else none
end Pp

/-! numbers: the inverse, the common remainder -/
namespace Pp
def big : Nat := 2 ^ 1000
structure RecInv (a m h0 h1 t0 t1 : Int) : Prop where
  h0n : 0 ≤ h0
  t0n : 0 ≤ t0
  h0m : h0 ≤ m
  t0m : t0 ≤ m
  g : Int.gcd h0 t0 = 1
  hk : ∃ k, a * h1 = h0 + m * k
  tk : ∃ k, a * t1 = t0 + m * k
  sg : ∃ s : Int, s * (h1 * t0 - t1 * h0) = m ∧ 0 ≤ s * h1 ∧ s * t1 ≤ 0 ∧ (s = 1 ∨ s = -1)
  h1m : h1.natAbs ≤ m.natAbs
  t1m : t1.natAbs ≤ m.natAbs
theorem gcd_emod {x y : Int} : Int.gcd y (x % y) = Int.gcd x y := by
  refine Nat.dvd_antisymm (Int.dvd_gcd ?_ ?_) (Int.dvd_gcd ?_ ?_)
  · have h1 : ((Int.gcd y (x % y) : Nat) : Int) ∣ y := Int.gcd_dvd_left ..
    have h2 : ((Int.gcd y (x % y) : Nat) : Int) ∣ x % y := Int.gcd_dvd_right ..
    have h3 : ((Int.gcd y (x % y) : Nat) : Int) ∣ y * (x / y) + x % y := Int.dvd_add (Int.dvd_trans h1 (Int.dvd_mul_right ..)) h2
    rw [Int.mul_ediv_add_emod] at h3
    exact h3
  · exact Int.gcd_dvd_left ..
  · exact Int.gcd_dvd_right ..
  · have h1 : ((Int.gcd x y : Nat) : Int) ∣ x := Int.gcd_dvd_left ..
    have h2 : ((Int.gcd x y : Nat) : Int) ∣ y := Int.gcd_dvd_right ..
    have e : x % y = x - y * (x / y) := by
      have := Int.mul_ediv_add_emod x y
      omega
    rw [e]
    exact Int.dvd_sub h1 (Int.dvd_trans h2 (Int.dvd_mul_right ..))
theorem rec_start {a m : Int} (hm : 1 ≤ m) (hg : Int.gcd a m = 1) : RecInv a m (a % m) 1 m 0 := by
  have h1 := Int.emod_nonneg a (show m ≠ 0 by omega)
  have h2 := Int.emod_lt_of_pos a (show 0 < m by omega)
  have h3 := Int.mul_ediv_add_emod a m
  refine ⟨h1, by omega, by omega, by omega, ?_, ⟨a / m, by grind⟩, ⟨-1, by grind⟩, ⟨1, by grind, by omega, by omega, Or.inl rfl⟩, by omega, by omega⟩
  rw [Int.gcd_comm, gcd_emod]
  exact hg
theorem rec_step {a m h0 h1 t0 t1 : Int} (I : RecInv a m h0 h1 t0 t1) (ht : t0 ≠ 0) : RecInv a m t0 t1 (h0 - h0 / t0 * t0) (h1 - h0 / t0 * t1) := by
  obtain ⟨h0n, t0n, h0m, t0m, g, ⟨k1, e1⟩, ⟨k2, e2⟩, ⟨s, s1, s2, s3, s4⟩, b1, b2⟩ := I
  have e3 := Int.mul_ediv_add_emod h0 t0
  have em : h0 - h0 / t0 * t0 = h0 % t0 := by grind
  have r1 := Int.emod_nonneg h0 ht
  have r2 := Int.emod_lt_of_pos h0 (show 0 < t0 by omega)
  have q0 : 0 ≤ h0 / t0 := Int.ediv_nonneg h0n t0n
  rw [em]
  have d1 : (-s) * (t1 * (h0 % t0) - (h1 - h0 / t0 * t1) * t0) = m := by
    rw [← em]
    grind
  have p1 : (h0 / t0) * (s * t1) ≤ 0 := Int.mul_nonpos_of_nonneg_of_nonpos q0 s3
  have p2 : 0 ≤ s * (h1 - h0 / t0 * t1) := by grind
  have p3 : (h0 % t0) * (s * t1) ≤ 0 := Int.mul_nonpos_of_nonneg_of_nonpos r1 s3
  have p4 : s * (h1 - h0 / t0 * t1) * t0 ≤ m := by grind
  have p5 : s * (h1 - h0 / t0 * t1) * 1 ≤ s * (h1 - h0 / t0 * t1) * t0 := Int.mul_le_mul_of_nonneg_left (by omega) p2
  refine ⟨t0n, r1, t0m, by omega, ?_, ⟨k2, e2⟩, ⟨k1 - h0 / t0 * k2, by grind⟩, ⟨-s, d1, by grind, by grind, by omega⟩, b2, ?_⟩
  · rw [gcd_emod]
    exact g
  · rcases s4 with e | e
    · subst e
      generalize h1 - h0 / t0 * t1 = z at *
      omega
    · subst e
      generalize h1 - h0 / t0 * t1 = z at *
      omega
theorem rec_end {a m h0 h1 t1 : Int} (hm : 1 ≤ m) (I : RecInv a m h0 h1 0 t1) : 0 ≤ h1 % m ∧ h1 % m < m ∧ ∃ k, a * (h1 % m) = 1 + m * k := by
  obtain ⟨h0n, t0n, h0m, t0m, g, ⟨k1, e1⟩, _, _, b1, b2⟩ := I
  refine ⟨Int.emod_nonneg _ (by omega), Int.emod_lt_of_pos _ (by omega), ?_⟩
  have e0 : h0 = 1 := by
    rw [Int.gcd_zero_right] at g
    omega
  have e3 := Int.mul_ediv_add_emod h1 m
  refine ⟨k1 - a * (h1 / m), ?_⟩
  grind
theorem emod_of {n x N t : Int} (h0 : 0 ≤ x) (h1 : x < N) (e : n = x + N * t) : n % N = x := by
  rw [e, Int.add_mul_emod_self_left]
  exact Int.emod_eq_of_lt h0 h1
/-- the greatest common divisor, its cofactors -/
theorem gcd_parts {m1 m2 : Int} (h1 : 0 < m1) (h2 : 0 < m2) : 0 < ((Int.gcd m1 m2 : Nat) : Int) ∧ m1 = (Int.gcd m1 m2 : Nat) * (m1 / (Int.gcd m1 m2 : Nat)) ∧ m2 = (Int.gcd m1 m2 : Nat) * (m2 / (Int.gcd m1 m2 : Nat)) ∧
    0 < m1 / (Int.gcd m1 m2 : Nat) ∧ 0 < m2 / (Int.gcd m1 m2 : Nat) ∧ Int.gcd (m1 / (Int.gcd m1 m2 : Nat)) (m2 / (Int.gcd m1 m2 : Nat)) = 1 := by
  have g0 : 0 < Int.gcd m1 m2 := Int.gcd_pos_of_ne_zero_left _ (by omega)
  have e1 : ((Int.gcd m1 m2 : Nat) : Int) * (m1 / (Int.gcd m1 m2 : Nat)) = m1 := Int.mul_ediv_cancel' (Int.gcd_dvd_left ..)
  have e2 : ((Int.gcd m1 m2 : Nat) : Int) * (m2 / (Int.gcd m1 m2 : Nat)) = m2 := Int.mul_ediv_cancel' (Int.gcd_dvd_right ..)
  have g0' : 0 < ((Int.gcd m1 m2 : Nat) : Int) := by omega
  refine ⟨g0', e1.symm, e2.symm, ?_, ?_, ?_⟩
  · exact Int.pos_of_mul_pos_right (by rw [e1]; exact h1) (by omega)
  · exact Int.pos_of_mul_pos_right (by rw [e2]; exact h2) (by omega)
  · exact Int.gcd_ediv_gcd_ediv_gcd g0
/-- the remainders of one number agree -/
theorem agree_of {n m1 m2 : Int} (h1 : 0 < m1) (h2 : 0 < m2) : (n % m1 - n % m2) % ((Int.gcd m1 m2 : Nat) : Int) = 0 := by
  obtain ⟨g0, e1, e2, _⟩ := gcd_parts h1 h2
  have a1 := Int.mul_ediv_add_emod n m1
  have a2 := Int.mul_ediv_add_emod n m2
  refine emod_of (t := m2 / (Int.gcd m1 m2 : Nat) * (n / m2) - m1 / (Int.gcd m1 m2 : Nat) * (n / m1)) (by omega) g0 ?_
  generalize ((Int.gcd m1 m2 : Nat) : Int) = g at *
  generalize m1 / g = u at *
  generalize m2 / g = v at *
  grind
theorem crt_of {n m1 m2 r : Int} (h1 : 0 < m1) (h2 : 0 < m2) (hr : ∃ k, m1 / (Int.gcd m1 m2 : Nat) * r = 1 + m2 / (Int.gcd m1 m2 : Nat) * k) :
    n % m1 + m1 * ((n % m2 - n % m1) / (Int.gcd m1 m2 : Nat) * r % (m2 / (Int.gcd m1 m2 : Nat))) = n % (m1 * (m2 / (Int.gcd m1 m2 : Nat))) := by
  obtain ⟨g0, e1, e2, u0, v0, _⟩ := gcd_parts h1 h2
  obtain ⟨k, hk⟩ := hr
  have a1 := Int.mul_ediv_add_emod n m1
  have a2 := Int.mul_ediv_add_emod n m2
  have b1 := Int.emod_nonneg n (show m1 ≠ 0 by omega)
  have b2 := Int.emod_lt_of_pos n h1
  have ag := agree_of (n := n) h2 h1
  rw [Int.gcd_comm] at ag
  generalize ((Int.gcd m1 m2 : Nat) : Int) = g at *
  generalize hu : m1 / g = u at *
  generalize hv : m2 / g = v at *
  have c1 := Int.mul_ediv_add_emod (n % m2 - n % m1) g
  have c2 := Int.mul_ediv_add_emod ((n % m2 - n % m1) / g * r) v
  have c3 := Int.emod_nonneg ((n % m2 - n % m1) / g * r) (show v ≠ 0 by omega)
  have c4 := Int.emod_lt_of_pos ((n % m2 - n % m1) / g * r) v0
  generalize (n % m2 - n % m1) / g = d at *
  generalize d * r % v = f at *
  generalize d * r / v = q at *
  have ed : d = u * (n / m1) - v * (n / m2) := by
    have : g * d = g * (u * (n / m1) - v * (n / m2)) := by grind
    exact Int.eq_of_mul_eq_mul_left (by omega) this
  symm
  refine emod_of (t := -((n / m1) * k - (n / m2) * r - q)) ?_ ?_ ?_
  · have := Int.mul_nonneg (show 0 ≤ m1 by omega) c3
    omega
  · have := Int.mul_le_mul_of_nonneg_left (show f ≤ v - 1 by omega) (show 0 ≤ m1 by omega)
    have e5 : m1 * (v - 1) = m1 * v - m1 := by grind
    omega
  · grind
end Pp

set_option Elab.async false
set_option linter.all false
set_option maxRecDepth 100000
set_option maxHeartbeats 2000000
/-! the mirror's things in the heap -/
namespace Pp
open PySem PySem.Spec PyProof.Rows L2

/-! ### what is no list stays -/
def isL : HO → Bool
  | .lst _ => true
  | _ => false
def En (H H' : Hp) : Prop := ∀ a o, H a = some o → isL o = false → H' a = some o
theorem Ex.n {H H' : Hp} (e : Ex H H') : En H H' := fun a o h _ => e a o h
theorem En.refl (H : Hp) : En H H := fun _ _ h _ => h
theorem En.trans {H H1 H2 : Hp} (a : En H H1) (b : En H1 H2) : En H H2 := fun x o h l => b x o (a x o h l) l
theorem En.put {H : Hp} {D : Addr} {xs ys : List V} (h : H D = some (.lst xs)) : En H (upd H D (.lst ys)) := fun a o e l => by
  have : a ≠ D := fun z => by
    rw [z, h] at e
    cases e
    cases l
  rw [upd_ne this]
  exact e
theorem En.tup {H H' : Hp} (e : En H H') {p : Addr} {xs : List V} (h : H p = some (.tup xs)) : H' p = some (.tup xs) := e _ _ h rfl
theorem En.ins {H H' : Hp} (e : En H H') {p C dx : Addr} {fs : List (Str × V)} (h : H p = some (.ins C dx fs)) : H' p = some (.ins C dx fs) := e _ _ h rfl

def endS (b : Bool) : Str := if b = true then "top" else "bottom"
def EpAt (H : Hp) (v : V) (a : EP) : Prop := ∃ p, v = .ref p ∧ H p = some (.tup [.str (endS a.1), .int a.2])
def MvAt (H : Hp) (v : V) : Mv → Prop
  | .swap a b => ∃ p x y, v = .ref p ∧ H p = some (.tup [.str "swap", x, y]) ∧ EpAt H x a ∧ EpAt H y b
  | .carry a b => ∃ p x y, v = .ref p ∧ H p = some (.tup [.str "carry", x, y]) ∧ EpAt H x a ∧ EpAt H y b
  | .cut k => ∃ p, v = .ref p ∧ H p = some (.tup [.str "cut", .int k])
  | .turn e k => ∃ p, v = .ref p ∧ H p = some (.tup [.str "turn", .str (endS e), .int k])
  | .over => ∃ p, v = .ref p ∧ H p = some (.tup [.str "over"])
  | .face a => ∃ p x, v = .ref p ∧ H p = some (.tup [.str "face", x]) ∧ EpAt H x a
def EntAt (H : Hp) (v : V) (x : Ent) : Prop := ∃ p, v = .ref p ∧ H p = some (.tup [.str (endS x.e), .int x.d, .bl x.t])
def PcAt (H : Hp) (v : V) (x : Pc) : Prop := ∃ p, v = .ref p ∧ H p = some (.tup [.int x.first, .int x.step, .int x.count, .bl x.turn])
section
variable {H H' : Hp} {v : V}
theorem EpAt.mono (e : En H H') {a : EP} (h : EpAt H v a) : EpAt H' v a := let ⟨p, h1, h2⟩ := h; ⟨p, h1, e _ _ h2 rfl⟩
theorem MvAt.mono (e : En H H') : ∀ {m : Mv}, MvAt H v m → MvAt H' v m
  | .swap _ _, ⟨p, x, y, h1, h2, h3, h4⟩ => ⟨p, x, y, h1, e _ _ h2 rfl, h3.mono e, h4.mono e⟩
  | .carry _ _, ⟨p, x, y, h1, h2, h3, h4⟩ => ⟨p, x, y, h1, e _ _ h2 rfl, h3.mono e, h4.mono e⟩
  | .cut _, ⟨p, h1, h2⟩ => ⟨p, h1, e _ _ h2 rfl⟩
  | .turn _ _, ⟨p, h1, h2⟩ => ⟨p, h1, e _ _ h2 rfl⟩
  | .over, ⟨p, h1, h2⟩ => ⟨p, h1, e _ _ h2 rfl⟩
  | .face _, ⟨p, x, h1, h2, h3⟩ => ⟨p, x, h1, e _ _ h2 rfl, h3.mono e⟩
theorem EntAt.mono (e : En H H') {x : Ent} (h : EntAt H v x) : EntAt H' v x := let ⟨p, h1, h2⟩ := h; ⟨p, h1, e _ _ h2 rfl⟩
theorem PcAt.mono (e : En H H') {x : Pc} (h : PcAt H v x) : PcAt H' v x := let ⟨p, h1, h2⟩ := h; ⟨p, h1, e _ _ h2 rfl⟩
end
/-- lists of them -/
abbrev MvsAt (H : Hp) : List V → List Mv → Prop := Paired (MvAt H)
abbrev EntsAt (H : Hp) : List V → List Ent → Prop := Paired (EntAt H)
abbrev PcsAt (H : Hp) : List V → List Pc → Prop := Paired (PcAt H)
theorem MvsAt.mono {H H' : Hp} (e : En H H') {vs : List V} {xs : List Mv} (h : MvsAt H vs xs) : MvsAt H' vs xs := Paired.mapP h fun _ _ q => MvAt.mono e q
theorem EntsAt.mono {H H' : Hp} (e : En H H') {vs : List V} {xs : List Ent} (h : EntsAt H vs xs) : EntsAt H' vs xs := Paired.mapP h fun _ _ q => EntAt.mono e q
theorem PcsAt.mono {H H' : Hp} (e : En H H') {vs : List V} {xs : List Pc} (h : PcsAt H vs xs) : PcsAt H' vs xs := Paired.mapP h fun _ _ q => PcAt.mono e q
theorem paired_get {α β : Type} {F : α → β → Prop} : ∀ {l₁ : List α} {l₂ : List β} {i : Nat} {x : α}, Paired F l₁ l₂ → l₁[i]? = some x → ∃ y, l₂[i]? = some y ∧ F x y
  | _, _, _, _, .nil, e => by simp at e
  | _, _, 0, _, .cons r _, e => by simp at e; subst e; exact ⟨_, rfl, r⟩
  | _, _, i + 1, _, .cons _ t, e => by
    obtain ⟨y, h1, h2⟩ := paired_get (i := i) t (by simpa using e)
    exact ⟨y, by simpa using h1, h2⟩
theorem paired_get2 {α β : Type} {F : α → β → Prop} : ∀ {l₁ : List α} {l₂ : List β} {i : Nat} {y : β}, Paired F l₁ l₂ → l₂[i]? = some y → ∃ x, l₁[i]? = some x ∧ F x y
  | _, _, _, _, .nil, e => by simp at e
  | _, _, 0, _, .cons r _, e => by simp at e; subst e; exact ⟨_, rfl, r⟩
  | _, _, i + 1, _, .cons _ t, e => by
    obtain ⟨y, h1, h2⟩ := paired_get2 (i := i) t (by simpa using e)
    exact ⟨y, by simpa using h1, h2⟩
theorem paired_app {α β : Type} {F : α → β → Prop} : ∀ {l₁ m₁ : List α} {l₂ m₂ : List β}, Paired F l₁ l₂ → Paired F m₁ m₂ → Paired F (l₁ ++ m₁) (l₂ ++ m₂)
  | _, _, _, _, .nil, q => q
  | _, _, _, _, .cons r t, q => .cons r (paired_app t q)
theorem paired_take {α β : Type} {F : α → β → Prop} : ∀ {l₁ : List α} {l₂ : List β} (n : Nat), Paired F l₁ l₂ → Paired F (l₁.take n) (l₂.take n)
  | _, _, 0, _ => by rw [List.take_zero, List.take_zero]; exact .nil
  | _, _, _ + 1, .nil => .nil
  | _, _, n + 1, .cons r t => .cons r (paired_take n t)
/-- a word: its moves -/
def WdAt (K : PySem.W.Frag) (H : Hp) (v : V) (ws : List Mv) : Prop := ∃ p dx t vs, v = .ref p ∧ H p = some (.ins (He.ga K "Word") dx [(("steps" : Str), V.ref t)]) ∧ H t = some (.tup vs) ∧ MvsAt H vs ws
theorem WdAt.mono {K : PySem.W.Frag} {H H' : Hp} (e : En H H') {v : V} {ws : List Mv} (h : WdAt K H v ws) : WdAt K H' v ws := let ⟨p, dx, t, vs, h1, h2, h3, h4⟩ := h; ⟨p, dx, t, vs, h1, e _ _ h2 rfl, e _ _ h3 rfl, h4.mono e⟩
/-- a table of a form: a tuple -/
def TbAt (H : Hp) (v : V) (xs : List Ent) : Prop := ∃ p vs, v = .ref p ∧ H p = some (.tup vs) ∧ EntsAt H vs xs
theorem TbAt.mono {H H' : Hp} (e : En H H') {v : V} {xs : List Ent} (h : TbAt H v xs) : TbAt H' v xs := let ⟨p, vs, h1, h2, h3⟩ := h; ⟨p, vs, h1, e _ _ h2 rfl, h3.mono e⟩
def fmFs (F : Fm) (a b : V) : List (Str × V) := [("faced", .bl F.turned), ("moved_by", .int F.shift), ("first", a), ("last", b)]
def FmAt (K : PySem.W.Frag) (H : Hp) (v : V) (F : Fm) : Prop := ∃ p dx a b, v = .ref p ∧ H p = some (.ins (He.ga K "Form") dx (fmFs F a b)) ∧ TbAt H a F.top ∧ TbAt H b F.bottom
theorem FmAt.mono {K : PySem.W.Frag} {H H' : Hp} (e : En H H') {v : V} {F : Fm} (h : FmAt K H v F) : FmAt K H' v F := let ⟨p, dx, a, b, h1, h2, h3, h4⟩ := h; ⟨p, dx, a, b, h1, e _ _ h2 rfl, h3.mono e, h4.mono e⟩
section
variable {F : Fm} {a b : V}
theorem fm_faced : (fmFs F a b).lookup ("faced" : Str) = some (.bl F.turned) := lk_eq
theorem fm_moved : (fmFs F a b).lookup ("moved_by" : Str) = some (.int F.shift) := lk_ne (by decide +kernel) lk_eq
theorem fm_first : (fmFs F a b).lookup ("first" : Str) = some a := lk_ne (by decide +kernel) (lk_ne (by decide +kernel) lk_eq)
theorem fm_last : (fmFs F a b).lookup ("last" : Str) = some b := lk_ne (by decide +kernel) (lk_ne (by decide +kernel) (lk_ne (by decide +kernel) lk_eq))
theorem fm_no {m : Str} (h1 : ¬ m = "faced") (h2 : ¬ m = "moved_by") (h3 : ¬ m = "first") (h4 : ¬ m = "last") : (fmFs F a b).lookup m = none := lk_ne h1 (lk_ne h2 (lk_ne h3 (lk_ne h4 lk_nil)))
end
theorem wd_steps {t : V} : ([(("steps" : Str), t)] : List (Str × V)).lookup ("steps" : Str) = some t := lk_eq
theorem wd_no {t : V} {m : Str} (h : ¬ m = "steps") : ([(("steps" : Str), t)] : List (Str × V)).lookup m = none := lk_ne h lk_nil
/-- a track: word, size, form, great, low, high -/
def tkFs (wd fm : V) (n lo hi : Int) : List (Str × V) := [("word", wd), ("size", .int n), ("form", fm), ("is_great", .bl true), ("low", .int lo), ("high", .int hi)]
def TkAt (K : PySem.W.Frag) (H : Hp) (v : V) (ws : List Mv) (n : Int) : Prop := ∃ p dx wd fm, v = .ref p ∧ H p = some (.ins (He.ga K "Track") dx (tkFs wd fm n (formF ws).top.length (n - (formF ws).bottom.length))) ∧ WdAt K H wd ws ∧ FmAt K H fm (formF ws)
theorem TkAt.mono {K : PySem.W.Frag} {H H' : Hp} (e : En H H') {v : V} {ws : List Mv} {n : Int} (h : TkAt K H v ws n) : TkAt K H' v ws n := let ⟨p, dx, a, b, h1, h2, h3, h4⟩ := h; ⟨p, dx, a, b, h1, e _ _ h2 rfl, h3.mono e, h4.mono e⟩
section
variable {wd fm : V} {n lo hi : Int}
theorem tk_word : (tkFs wd fm n lo hi).lookup ("word" : Str) = some wd := lk_eq
theorem tk_size : (tkFs wd fm n lo hi).lookup ("size" : Str) = some (.int n) := lk_ne (by decide +kernel) lk_eq
theorem tk_form : (tkFs wd fm n lo hi).lookup ("form" : Str) = some fm := lk_ne (by decide +kernel) (lk_ne (by decide +kernel) lk_eq)
theorem tk_great : (tkFs wd fm n lo hi).lookup ("is_great" : Str) = some (.bl true) := lk_ne (by decide +kernel) (lk_ne (by decide +kernel) (lk_ne (by decide +kernel) lk_eq))
theorem tk_low : (tkFs wd fm n lo hi).lookup ("low" : Str) = some (.int lo) := lk_ne (by decide +kernel) (lk_ne (by decide +kernel) (lk_ne (by decide +kernel) (lk_ne (by decide +kernel) lk_eq)))
theorem tk_high : (tkFs wd fm n lo hi).lookup ("high" : Str) = some (.int hi) := lk_ne (by decide +kernel) (lk_ne (by decide +kernel) (lk_ne (by decide +kernel) (lk_ne (by decide +kernel) (lk_ne (by decide +kernel) lk_eq))))
theorem tk_no {m : Str} (h1 : ¬ m = "word") (h2 : ¬ m = "size") (h3 : ¬ m = "form") (h4 : ¬ m = "is_great") (h5 : ¬ m = "low") (h6 : ¬ m = "high") : (tkFs wd fm n lo hi).lookup m = none := lk_ne h1 (lk_ne h2 (lk_ne h3 (lk_ne h4 (lk_ne h5 (lk_ne h6 lk_nil)))))
end

/-! ### comprehensions -/
/-- a comprehension of one item a turn: R tells what is made so far -/
theorem lcx {J : It} {n : Nat} {G : Hp → Prop} {Y : Nat → Hp → V → Hp → Prop} {g : TG} {te : TE} {vs : List Nat} {σ : L2.St} {H1 : Hp} {D : Addr} {Qd : Hp → Prop} (w : Walk J n G Y) (hD : H1 D = none) (hn : n < 100000) (R : Nat → List V → Hp → Prop)
    (hG : ∀ H, Ex H1 H → G H) (hR : ∀ i acc H H', En H H' → R i acc H → R i acc H') (h0 : R 0 [] H1)
    (hs : ∀ i x H H' (k : VK), i < n → Ex H1 H → Y i H x H' → (∀ y H4, Ex H H4 → (∀ acc, acc.length = i → R i acc H → R (i + 1) (acc ++ [y]) H4) → k y H4) → g x (wipe σ vs) H' fun σ2 H2 => wipe σ2 vs = wipe σ vs ∧ te σ2 H2 k)
    (hd : ∀ acc H, Ex H1 H → H D = some (.lst acc) → acc.length = n → R n acc H → Qd H) :
    ∃ W : Nat → Nat → Hp → Prop, (∃ m, W 0 m (upd H1 D (.lst []))) ∧ ∀ i m H, W i m H →
      (J.stop i H ∧ Qd H) ∨ (J.go i H ∧ ∃ Nx : Hp → Prop, (∀ H', Nx H' → ∃ m', m' < m ∧ W (i + 1) m' H') ∧ ∀ x H', J.yld i H x H' → g x (wipe σ vs) H' fun σ2 H2 => wipe σ2 vs = wipe σ vs ∧ tYes σ2 H2 fun b H3 =>
        if b = true then te σ2 H3 fun y H4 => ∃ acc, H4 D = some (.lst acc) ∧ acc.length < sizeLine ∧ Nx (upd H4 D (.lst (acc ++ [y]))) else Nx H3) :=
  lc_it w (fun i H => Ex H1 H ∧ ∃ acc, H D = some (.lst acc) ∧ acc.length = i ∧ R i acc H) ⟨Ex.new hD, [], upd_same, rfl, hR 0 [] H1 _ (Ex.new hD).n h0⟩ (fun i H _ p => hG H p.1)
    (fun i x H H' hi ⟨ex, acc, hacc, hl, hr⟩ y => hs i x H H' _ hi ex y fun v H4 e4 q4 => ⟨acc, e4 _ _ hacc, by rw [hl]; exact Nat.lt_of_lt_of_le (Nat.lt_trans hi hn) (by decide), (ex.trans e4).mut hD, acc ++ [v], upd_same, by rw [List.length_append, hl] <;> rfl,
        hR _ _ _ _ (En.put (e4 _ _ hacc)) (q4 acc hl hr)⟩)
    (fun H ⟨ex, acc, hacc, hl, hr⟩ => hd acc H ex hacc hl hr)
section
variable {K : PySem.W.Frag} {a b : Addr} {xs ys : List V} {z : Str}
theorem walk_enumT : Walk (IteT K a) xs.length (fun H => SqT K H a xs) (YPair (fun i => some (.int (i : Nat))) (fun i => xs[i]?)) := by
  refine ⟨fun i _ hi q => ⟨xs, xs[i], q, by simp [hi]⟩, fun _ q => ⟨xs, q, Nat.le_refl _⟩, fun i H v H' _ q y => ?_⟩
  obtain ⟨T, x, h1, h2, h3, h4⟩ := y
  exact ⟨T, .int (i : Nat), x, h1, h2, h3, rfl, h4 xs q⟩
theorem walk_zipS (hn : z.cps.size = xs.length) : Walk (ItzS K z b) xs.length (fun H => SqT K H b xs) (YPair (fun i => z.cps[i]?.map fun c => V.str ⟨#[c]⟩) (fun i => xs[i]?)) := by
  refine ⟨fun i _ hi q => ⟨xs, z.cps[i]'(by omega), xs[i], q, by simp [hn, hi], by simp [hi]⟩, fun _ q => ⟨xs, q, by omega, Nat.le_refl _, .inr rfl⟩, fun i H v H' _ q y => ?_⟩
  obtain ⟨T, c, x, h1, h2, h3, h4, h5⟩ := y
  exact ⟨T, .str ⟨#[c]⟩, x, h1, h2, h3, by simp [h4], h5 xs q⟩
theorem walk_zipT (hn : xs.length = ys.length) : Walk (RZ.ItzT K a b) xs.length (fun H => SqT K H a xs ∧ SqT K H b ys) (YPair (fun i => xs[i]?) (fun i => ys[i]?)) := by
  refine ⟨fun i _ hi q => ⟨xs, ys, xs[i], ys[i]'(by omega), q.1, q.2, by simp [hi], by simp [← hn, hi]⟩, fun _ q => ⟨xs, ys, q.1, q.2, .inl (Nat.le_refl _)⟩, fun i H v H' _ q y => ?_⟩
  obtain ⟨T, x, z, h1, h2, h3, h4, h5⟩ := y
  exact ⟨T, x, z, h1, h2, h3, h4 xs q.1, h5 ys q.2⟩
end
/-- a comprehension whose i-th item tells f i -/
theorem lcR {α : Type} {J : It} {n : Nat} {G : Hp → Prop} {Y : Nat → Hp → V → Hp → Prop} {g : TG} {te : TE} {vs : List Nat} {σ : L2.St} {H1 : Hp} {D : Addr} {Qd : Hp → Prop} (w : Walk J n G Y) (hD : H1 D = none) (hn : n < 100000) (At : Hp → V → α → Prop) (f : Nat → α)
    (hA : ∀ H H' v x, En H H' → At H v x → At H' v x) (hG : ∀ H, Ex H1 H → G H)
    (hs : ∀ i x H H' (k : VK), i < n → Ex H1 H → Y i H x H' → (∀ y H4, Ex H H4 → At H4 y (f i) → k y H4) → g x (wipe σ vs) H' fun σ2 H2 => wipe σ2 vs = wipe σ vs ∧ te σ2 H2 k)
    (hd : ∀ acc H, Ex H1 H → H D = some (.lst acc) → Paired (At H) acc ((List.range n).map f) → Qd H) :
    ∃ W : Nat → Nat → Hp → Prop, (∃ m, W 0 m (upd H1 D (.lst []))) ∧ ∀ i m H, W i m H →
      (J.stop i H ∧ Qd H) ∨ (J.go i H ∧ ∃ Nx : Hp → Prop, (∀ H', Nx H' → ∃ m', m' < m ∧ W (i + 1) m' H') ∧ ∀ x H', J.yld i H x H' → g x (wipe σ vs) H' fun σ2 H2 => wipe σ2 vs = wipe σ vs ∧ tYes σ2 H2 fun b H3 =>
        if b = true then te σ2 H3 fun y H4 => ∃ acc, H4 D = some (.lst acc) ∧ acc.length < sizeLine ∧ Nx (upd H4 D (.lst (acc ++ [y]))) else Nx H3) :=
  lcx w hD hn (fun i acc H => Paired (At H) acc ((List.range i).map f)) hG (fun i acc H H' e h => Paired.mapP h fun _ _ q => hA _ _ _ _ e q) .nil
    (fun i x H H' k hi e y q => hs i x H H' k hi e y fun v H4 e4 a4 => q v H4 e4 fun acc hl hr => by
      rw [List.range_succ, List.map_append]
      exact paired_app (Paired.mapP hr fun _ _ q => hA _ _ _ _ e4.n q) (.cons a4 .nil))
    (fun acc H e ha hl h => hd acc H e ha h)
theorem paired_eq {α : Type} {f : α → V} : ∀ {vs : List V} {xs : List α}, Paired (fun v x => v = f x) vs xs → vs = xs.map f
  | _, _, .nil => rfl
  | _, _, .cons h t => by rw [h, paired_eq t, List.map_cons]
theorem paired_len {α β : Type} {F : α → β → Prop} : ∀ {l₁ : List α} {l₂ : List β}, Paired F l₁ l₂ → l₁.length = l₂.length
  | _, _, .nil => rfl
  | _, _, .cons _ t => by rw [List.length_cons, List.length_cons, paired_len t]
/-- all but one object stays -/
def ExX (x : Addr) (H H' : Hp) : Prop := ∀ a o, a ≠ x → H a = some o → H' a = some o
theorem Ex.x {H H' : Hp} {x : Addr} (e : Ex H H') : ExX x H H' := fun a o _ h => e a o h
theorem ExX.trans {H H1 H2 : Hp} {x : Addr} (a : ExX x H H1) (b : ExX x H1 H2) : ExX x H H2 := fun c o n h => b c o n (a c o n h)
theorem ExX.put {H : Hp} {x : Addr} {o : HO} : ExX x H (upd H x o) := fun a u n e => by
  rw [upd_ne n]
  exact e
theorem Ex.thenX {H H1 H2 : Hp} {x : Addr} (e : Ex H H1) (h : H x = none) (e2 : ExX x H1 H2) : Ex H H2 := fun a o q => e2 a o (ne_of_none q h) (e a o q)
theorem range_getD {α : Type} (xs : List α) (d : α) : (List.range xs.length).map (fun i => xs.getD i d) = xs := by
  apply List.ext_getElem
  · simp
  · intro i h1 h2
    simp at h1
    simp [h1]
end Pp

set_option Elab.async false
set_option linter.all false
set_option maxRecDepth 100000
set_option maxHeartbeats 4000000
/-! numbers, places: each def once -/
namespace Pp
open PySem PySem.Spec PyProof.Rows L2
section
variable {P : Program} {w : World} {K : PySem.W.Frag} {mg : Str → Option Value} {base : Heap}

def sp_greatest_divisor : Sp := fun vs H Q _ => ∃ a b : Int, vs = [.int a, .int b] ∧ Q (.int ((Int.gcd a b : Nat) : Int)) H
theorem ok_greatest_divisor (T : Tx w K mg) : FnR P w K mg base CX0 1 (He.ga K "greatest_divisor") (sp_greatest_divisor) := by
  refine mkR T.d_greatest_divisor sc_greatest_divisor (fun _ _ _ _ _ _ us hl => match us, hl with | [_, _], _ => rfl) (fun vs H Q E h => ?_) (fun cdv A outer s H vs Q E hr h => ?_)
  · obtain ⟨a, b, rfl, _⟩ := h
    rfl
  · obtain ⟨a, b, rfl, k⟩ := h
    refine ⟨_, (pss_cons (ps_par (i := 0) (j := 1) (by rfl) sc_greatest_divisor.nd rfl rfl (by decide) rfl rfl (pa_cons (pe_callB call_abs (by rfl) T.f_abs (by decide +kernel) (pa_cons (pv 0) pa_nil)) (pa_cons (pe_callB call_abs (by rfl) T.f_abs (by decide +kernel) (pa_cons (pv 1) pa_nil)) pa_nil)) (by rfl)) (pss_cons (ps_while PassesOwn.never (pt_cmpR op_ne (pv 1) pe_int (nomark _)) (pss_one (ps_par (i := 0) (j := 1) (by rfl) sc_greatest_divisor.nd rfl rfl (by decide) rfl rfl (pa_cons (pv 1) (pa_cons (pe_op op_mod (pv 0) (pv 1)) pa_nil)) (by rfl)))) (pss_one (ps_ret (pv 0))))), ?_⟩
    refine ⟨_, rfl, _, rfl, _, rfl, _, rfl, _, _, rfl, fun m σ H' => H' = H ∧ ∃ x y : Int, σ = [some (.int x), some (.int y)] ∧ 0 ≤ x ∧ 0 ≤ y ∧ Int.gcd x y = Int.gcd a b ∧ m = y.toNat, ⟨_, rfl, _, _, rfl, ?_, ?_, ?_, rfl⟩, ?_⟩
    · split <;> omega
    · split <;> omega
    · split <;> split <;> simp [Int.gcd]
    · rintro m σ H' ⟨rfl, x, y, rfl, hx, hy, hg, rfl⟩
      refine ⟨_, rfl, rfl, _, rfl, ite2 (fun c => ?_) (fun c => ?_)⟩
      · have c' : y ≠ 0 := by
          intro e
          rw [e] at c
          simp at c
        have h1 := Int.emod_nonneg x c'
        have h2 := Int.emod_lt_of_pos x (show 0 < y by omega)
        refine ⟨_, fun _ _ n => n, ?_⟩
        refine ⟨_, rfl, _, rfl, _, rfl, _, _, rfl, rfl, (by omega), _, _, rfl, _, ?_, rfl, _, _, rfl, hy, h1, ?_, rfl⟩
        · omega
        · rw [gcd_emod]
          exact hg
      · have c' : y = 0 := by
          by_cases e : y = 0
          · exact e
          · simp [e] at c
        subst c'
        refine ⟨_, rfl, ?_⟩
        have e : x = ((Int.gcd a b : Nat) : Int) := by
          rw [← hg, Int.gcd_zero_right]
          omega
        rw [e]
        exact k

theorem cmulB {i j : Int} (hi : i.natAbs < big) (hj : j.natAbs < big) : CMulW i j := wide_mul (a := 1000) (b := 1000) (by unfold big at hi; exact hi) (by unfold big at hj; exact hj) (by decide) (by decide) (by decide)
theorem cdivB {i j : Int} (h : 0 < j) (hj : j.natAbs < big) : CDivW i j := wide_div (b := 1000) h (by unfold big at hj; exact hj) (by decide) (by decide)
/-- the factor that makes a 1 by m -/
def sp_reciprocal : Sp := fun vs H Q _ => ∃ a m : Int, vs = [.int a, .int m] ∧ 1 ≤ m ∧ m.natAbs < big ∧ Int.gcd a m = 1 ∧ ∀ (r : Int) (H' : Hp), Ex H H' → 0 ≤ r → r < m → (∃ k, a * r = 1 + m * k) → Q (.int r) H'
theorem ok_reciprocal (T : Tx w K mg) : FnR P w K mg base CX0 1 (He.ga K "reciprocal") (sp_reciprocal) := by
  refine mkR T.d_reciprocal sc_reciprocal (fun _ _ _ _ _ _ us hl => match us, hl with | [_, _], _ => rfl) (fun vs H Q E h => ?_) (fun cdv A outer s H vs Q E hr h => ?_)
  · obtain ⟨a, b, rfl, _⟩ := h
    rfl
  · obtain ⟨a, m, rfl, hm, hb, hg, k⟩ := h
    refine ⟨_, (pss_cons (ps_par (i := 2) (j := 3) (by rfl) sc_reciprocal.nd rfl rfl (by decide) rfl rfl (pa_cons (pe_tup (pa_cons (pe_op op_mod (pv 0) (pv 1)) (pa_cons pe_int pa_nil))) (pa_cons (pe_tup (pa_cons (pv 1) (pa_cons pe_int pa_nil))) pa_nil)) (by rfl)) (pss_cons (ps_while PassesOwn.never (pt_cmpR op_ne (pe_ix ix_tup (pv 3) pe_int (fun _ _ => rfl)) pe_int (nomark _)) (pss_cons (ps_set (i := 4) sc_reciprocal.nd rfl (Or.inl rfl) (pe_op op_fdivW (pe_ix ix_tup (pv 2) pe_int (fun _ _ => rfl)) (pe_ix ix_tup (pv 3) pe_int (fun _ _ => rfl)))) (pss_one (ps_par (i := 2) (j := 3) (by rfl) sc_reciprocal.nd rfl rfl (by decide) rfl rfl (pa_cons (pv 3) (pa_cons (pe_tup (pa_cons (pe_op op_sub (pe_ix ix_tup (pv 2) pe_int (fun _ _ => rfl)) (pe_op op_mulW (pv 4) (pe_ix ix_tup (pv 3) pe_int (fun _ _ => rfl)))) (pa_cons (pe_op op_sub (pe_ix ix_tup (pv 2) pe_int (fun _ _ => rfl)) (pe_op op_mulW (pv 4) (pe_ix ix_tup (pv 3) pe_int (fun _ _ => rfl)))) pa_nil))) pa_nil)) (by rfl))))) (pss_one (ps_ret (pe_op op_mod (pe_ix ix_tup (pv 2) pe_int (fun _ _ => rfl)) (pv 1)))))), ?_⟩
    refine ⟨_, rfl, _, rfl, _, _, rfl, rfl, (by omega), (by show 2 ≤ sizeLine; decide), fun p1 n1 => ?_⟩
    generalize hh1 : upd _ p1 _ = H1; obtain ⟨e1, t1⟩ := upd_facts n1 hh1; clear hh1
    refine ⟨_, rfl, (by show 2 ≤ sizeLine; decide), fun p2 n2 => ?_⟩
    generalize hh2 : upd _ p2 _ = H2; obtain ⟨e2, t2⟩ := upd_facts n2 hh2; clear hh2
    refine ⟨_, _, rfl, fun n σ H' => ∃ (p q : Addr) (h0 h1 t0 t1 : Int) (v : Option V), σ = [some (.int a), some (.int m), some (.ref p), some (.ref q), v] ∧ Ex H H' ∧ H' p = some (.tup [.int h0, .int h1]) ∧ H' q = some (.tup [.int t0, .int t1]) ∧ RecInv a m h0 h1 t0 t1 ∧ n = t0.toNat,
      ⟨_, p1, p2, _, _, _, _, none, rfl, e1.trans e2, e2 _ _ t1, t2, rec_start hm hg, rfl⟩, ?_⟩
    rintro n σ H' ⟨p, q, h0, h1, t0, t1, v, rfl, ex, hp, hq, I, rfl⟩
    refine ⟨_, rfl, q, _, 0, _, rfl, rfl, SqT.of hq, atI_nat (j := 0) rfl, rfl, _, rfl, ite2 (fun c => ?_) (fun c => ?_)⟩
    · have c' : t0 ≠ 0 := by
        intro e
        rw [e] at c
        simp at c
      have ht : 0 < t0 := by have := I.t0n; omega
      have htb : t0.natAbs < big := by have := I.t0m; omega
      have hqb : (h0 / t0).natAbs < big := by
        have := I.h0m
        have h2 := I.h0n
        have h3 : h0 / t0 ≤ h0 := Int.ediv_le_self _ h2
        have h4 : 0 ≤ h0 / t0 := Int.ediv_nonneg h2 (by omega)
        omega
      have ht1b : t1.natAbs < big := by have := I.t1m; omega
      refine ⟨_, fun _ _ n => n, ?_⟩
      refine ⟨_, rfl, p, _, 0, _, rfl, rfl, SqT.of hp, atI_nat (j := 0) rfl, _, rfl, q, _, 0, _, rfl, rfl, SqT.of hq, atI_nat (j := 0) rfl, _, _, rfl, rfl, cdivB ht htb, ?_⟩
      refine ⟨_, rfl, _, rfl, p, _, 0, _, rfl, rfl, SqT.of hp, atI_nat (j := 0) rfl, _, rfl, _, rfl, q, _, 0, _, rfl, rfl, SqT.of hq, atI_nat (j := 0) rfl, _, _, rfl, rfl, cmulB hqb htb, _, _, rfl, rfl, ?_⟩
      refine ⟨_, rfl, p, _, 1, _, rfl, rfl, SqT.of hp, atI_nat (j := 1) rfl, _, rfl, _, rfl, q, _, 1, _, rfl, rfl, SqT.of hq, atI_nat (j := 1) rfl, _, _, rfl, rfl, cmulB hqb ht1b, _, _, rfl, rfl, (by show 2 ≤ sizeLine; decide), fun p3 n3 => ?_⟩
      generalize hh3 : upd _ p3 _ = H3; obtain ⟨e3, t3⟩ := upd_facts n3 hh3; clear hh3
      refine ⟨_, _, rfl, _, ?_, q, p3, _, _, _, _, _, rfl, ex.trans e3, e3 _ _ hq, t3, rec_step I c', rfl⟩
      have e3 := Int.mul_ediv_add_emod h0 t0
      have em : h0 - h0 / t0 * t0 = h0 % t0 := by grind
      have r1 := Int.emod_nonneg h0 c'
      have r2 := Int.emod_lt_of_pos h0 ht
      omega
    · have c' : t0 = 0 := by
        by_cases e : t0 = 0
        · exact e
        · simp [e] at c
      subst c'
      obtain ⟨r1, r2, r3⟩ := rec_end hm I
      refine ⟨_, rfl, p, _, 1, _, rfl, rfl, SqT.of hp, atI_nat (j := 1) rfl, _, rfl, _, _, rfl, rfl, (by omega), k _ _ ex r1 r2 r3⟩
def PrAt (H : Hp) (v : V) (r m : Int) : Prop := ∃ p, v = .ref p ∧ H p = some (.tup [.int r, .int m])
theorem PrAt.mono {H H' : Hp} (e : Ex H H') {v : V} {r m : Int} (h : PrAt H v r m) : PrAt H' v r m := let ⟨p, h1, h2⟩ := h; ⟨p, h1, e _ _ h2⟩
/-- the remainders of one number agree -/
def sp_agree : Sp := fun vs H Q _ => ∃ (x y : V) (n m1 m2 : Int), vs = [x, y] ∧ 0 < m1 ∧ 0 < m2 ∧ PrAt H x (n % m1) m1 ∧ PrAt H y (n % m2) m2 ∧ Q (.bl true) H
theorem ok_agree (T : Tx w K mg) : FnR P w K mg base CX0 2 (He.ga K "agree") (sp_agree) := by
  refine mkR T.d_agree sc_agree (fun _ _ _ _ _ _ us hl => match us, hl with | [_, _], _ => rfl) (fun vs H Q E h => ?_) (fun cdv A outer s H vs Q E hr h => ?_)
  · obtain ⟨x, y, n, m1, m2, rfl, _⟩ := h
    rfl
  · obtain ⟨x, y, n, m1, m2, rfl, h1, h2, ⟨p, rfl, hp⟩, ⟨q, rfl, hq⟩, k⟩ := h
    obtain ⟨g0, _⟩ := gcd_parts h1 h2
    refine ⟨_, (pss_one (ps_ret (pe_cmpR op_eq (pe_op op_mod (pe_op op_sub (pe_ix ix_tup (pv 0) pe_int (fun _ _ => rfl)) (pe_ix ix_tup (pv 1) pe_int (fun _ _ => rfl))) (c_call (ok_greatest_divisor T) (hr.mono (by decide)) (by rfl) T.g_greatest_divisor (kp_of T.d_greatest_divisor) (pa_cons (pe_ix ix_tup (pv 0) pe_int (fun _ _ => rfl)) (pa_cons (pe_ix ix_tup (pv 1) pe_int (fun _ _ => rfl)) pa_nil)))) pe_int (nomark _)))), ?_⟩
    refine ⟨_, rfl, p, _, 0, _, rfl, rfl, SqT.of hp, atI_nat (j := 0) rfl, _, rfl, q, _, 0, _, rfl, rfl, SqT.of hq, atI_nat (j := 0) rfl, _, _, rfl, rfl, ?_⟩
    refine ⟨_, rfl, p, _, 1, _, rfl, rfl, SqT.of hp, atI_nat (j := 1) rfl, _, rfl, q, _, 1, _, rfl, rfl, SqT.of hq, atI_nat (j := 1) rfl, _, _, rfl, _, _, rfl, rfl, g0, rfl, ?_⟩
    have e := agree_of (n := n) h1 h2
    show Q (V.bl (decide (V.int ((n % m1 - n % m2) % ((Int.gcd m1 m2 : Nat) : Int)) = V.int 0))) H
    rw [e]
    exact k
/-- the common remainder of one number's two -/
def sp_joined : Sp := fun vs H Q _ => ∃ (x y : V) (n m1 m2 : Int), vs = [x, y] ∧ 0 < m1 ∧ 0 < m2 ∧ m1.natAbs < big ∧ m2.natAbs < big ∧ PrAt H x (n % m1) m1 ∧ PrAt H y (n % m2) m2 ∧
  ∀ (v : V) (H' : Hp), Ex H H' → PrAt H' v (n % (m1 * (m2 / (Int.gcd m1 m2 : Nat)))) (m1 * (m2 / (Int.gcd m1 m2 : Nat))) → Q v H'
theorem ok_joined (T : Tx w K mg) : FnR P w K mg base CX0 2 (He.ga K "joined") (sp_joined) := by
  refine mkR T.d_joined sc_joined (fun _ _ _ _ _ _ us hl => match us, hl with | [_, _], _ => rfl) (fun vs H Q E h => ?_) (fun cdv A outer s H vs Q E hr h => ?_)
  · obtain ⟨x, y, n, m1, m2, rfl, _⟩ := h
    rfl
  · obtain ⟨x, y, n, m1, m2, rfl, h1, h2, b1, b2, ⟨p, rfl, hp⟩, ⟨q, rfl, hq⟩, k⟩ := h
    obtain ⟨g0, f1, f2, u0, v0, gg⟩ := gcd_parts h1 h2
    have bg : ((Int.gcd m1 m2 : Nat) : Int).natAbs < big := by
      have : Int.gcd m1 m2 ∣ m1.natAbs := Int.gcd_dvd_natAbs_left ..
      have := Nat.le_of_dvd (by omega) this
      omega
    have bu : (m2 / (Int.gcd m1 m2 : Nat)).natAbs < big := by
      have := Int.ediv_le_self (a := m2) (Int.gcd m1 m2 : Nat) (by omega)
      omega
    have dr : ((n % m2 - n % m1) / (Int.gcd m1 m2 : Nat)).natAbs < big := by
      have c1 := Int.emod_nonneg n (show m1 ≠ 0 by omega)
      have c2 := Int.emod_lt_of_pos n h1
      have c3 := Int.emod_nonneg n (show m2 ≠ 0 by omega)
      have c4 := Int.emod_lt_of_pos n h2
      have := Int.natAbs_ediv_le_natAbs (n % m2 - n % m1) (Int.gcd m1 m2 : Nat)
      omega
    refine ⟨_, (pss_cons (ps_set (i := 2) sc_joined.nd rfl (Or.inl rfl) (c_call (ok_greatest_divisor T) (hr.mono (by decide)) (by rfl) T.g_greatest_divisor (kp_of T.d_greatest_divisor) (pa_cons (pe_ix ix_tup (pv 0) pe_int (fun _ _ => rfl)) (pa_cons (pe_ix ix_tup (pv 1) pe_int (fun _ _ => rfl)) pa_nil)))) (pss_cons (ps_set (i := 3) sc_joined.nd rfl (Or.inl rfl) (pe_op op_fdivW (pe_ix ix_tup (pv 1) pe_int (fun _ _ => rfl)) (pv 2))) (pss_cons (ps_set (i := 4) sc_joined.nd rfl (Or.inl rfl) (pe_op op_mod (pe_op op_mulW (pe_op op_fdivW (pe_op op_sub (pe_ix ix_tup (pv 1) pe_int (fun _ _ => rfl)) (pe_ix ix_tup (pv 0) pe_int (fun _ _ => rfl))) (pv 2)) (c_call (ok_reciprocal T) (hr.mono (by decide)) (by rfl) T.g_reciprocal (kp_of T.d_reciprocal) (pa_cons (pe_op op_fdivW (pe_ix ix_tup (pv 0) pe_int (fun _ _ => rfl)) (pv 2)) (pa_cons (pv 3) pa_nil)))) (pv 3))) (pss_one (ps_ret (pe_tup (pa_cons (pe_op op_add (pe_ix ix_tup (pv 0) pe_int (fun _ _ => rfl)) (pe_op op_mulW (pe_ix ix_tup (pv 0) pe_int (fun _ _ => rfl)) (pv 4))) (pa_cons (pe_op op_mulW (pe_ix ix_tup (pv 0) pe_int (fun _ _ => rfl)) (pv 3)) pa_nil)))))))), ?_⟩
    refine ⟨_, rfl, p, _, 1, _, rfl, rfl, SqT.of hp, atI_nat (j := 1) rfl, _, rfl, q, _, 1, _, rfl, rfl, SqT.of hq, atI_nat (j := 1) rfl, _, _, rfl, ?_⟩
    refine ⟨_, rfl, q, _, 1, _, rfl, rfl, SqT.of hq, atI_nat (j := 1) rfl, _, rfl, _, _, rfl, rfl, cdivB g0 bg, ?_⟩
    refine ⟨_, rfl, q, _, 0, _, rfl, rfl, SqT.of hq, atI_nat (j := 0) rfl, _, rfl, p, _, 0, _, rfl, rfl, SqT.of hp, atI_nat (j := 0) rfl, _, _, rfl, rfl, _, rfl, _, _, rfl, rfl, cdivB g0 bg, ?_⟩
    refine ⟨_, rfl, p, _, 1, _, rfl, rfl, SqT.of hp, atI_nat (j := 1) rfl, _, rfl, _, _, rfl, rfl, cdivB g0 bg, _, rfl, _, _, rfl, by omega, bu, gg, fun r H1 e1 r0 r1 hk => ?_⟩
    have br : r.natAbs < big := by omega
    have c3 := Int.emod_nonneg ((n % m2 - n % m1) / (Int.gcd m1 m2 : Nat) * r) (show m2 / (Int.gcd m1 m2 : Nat) ≠ 0 by omega)
    have c4 := Int.emod_lt_of_pos ((n % m2 - n % m1) / (Int.gcd m1 m2 : Nat) * r) v0
    refine ⟨_, _, rfl, rfl, cmulB dr br, _, rfl, _, _, rfl, rfl, v0, ?_⟩
    refine ⟨_, rfl, p, _, 0, _, rfl, rfl, SqT.of (e1 _ _ hp), atI_nat (j := 0) rfl, _, rfl, p, _, 1, _, rfl, rfl, SqT.of (e1 _ _ hp), atI_nat (j := 1) rfl, _, rfl, _, _, rfl, rfl, cmulB b1 (by omega), _, _, rfl, rfl, ?_⟩
    refine ⟨_, rfl, p, _, 1, _, rfl, rfl, SqT.of (e1 _ _ hp), atI_nat (j := 1) rfl, _, rfl, _, _, rfl, rfl, cmulB b1 bu, (by show 2 ≤ sizeLine; decide), fun p3 n3 => ?_⟩
    generalize hh3 : upd _ p3 _ = H3; obtain ⟨e3, t3⟩ := upd_facts n3 hh3; clear hh3
    refine k _ _ (e1.trans e3) ⟨p3, rfl, ?_⟩
    rw [t3]
    show some (HO.tup [V.int (n % m1 + m1 * ((n % m2 - n % m1) / ((Int.gcd m1 m2 : Nat) : Int) * r % (m2 / ((Int.gcd m1 m2 : Nat) : Int)))), V.int (m1 * (m2 / ((Int.gcd m1 m2 : Nat) : Int)))]) = _
    rw [crt_of h1 h2 hk]

/-! ### places -/
def sp_need_size : Sp := fun vs H Q _ => ∃ n : Int, vs = [.int n] ∧ 0 ≤ n ∧ n ≤ 10 ^ 30 ∧ Q .non H
theorem ok_need_size (T : Tx w K mg) : FnR P w K mg base CX0 1 (He.ga K "need_size") (sp_need_size) := by
  refine mkR T.d_need_size sc_need_size (fun _ _ _ _ _ _ us hl => match us, hl with | [_], _ => rfl) (fun vs H Q E h => ?_) (fun cdv A outer s H vs Q E hr h => ?_)
  · obtain ⟨n, rfl, _⟩ := h
    rfl
  · obtain ⟨n, rfl, h1, h2, k⟩ := h
    refine ⟨_, (pss_one (ps_if (pt_not (pt_chain op_le op_le pe_int (pv 0) (pe_glob (by rfl) T.i_MOST_CARDS.choose_spec (v := .int 1000000000000000000000000000000) ⟨_, rfl⟩))) pss_never pss_nil)), ?_⟩
    refine ⟨_, rfl, _, _, rfl, rfl, _, rfl, ?_⟩
    rw [decide_eq_true h1]
    refine iteT ⟨_, _, rfl, rfl, _, rfl, ?_⟩
    rw [decide_eq_true (show n ≤ 1000000000000000000000000000000 from h2)]
    exact iteF k
def sp_need_place : Sp := fun vs H Q _ => ∃ p n : Int, vs = [.int p, .int n] ∧ 0 ≤ p ∧ p < n ∧ Q .non H
theorem ok_need_place (T : Tx w K mg) : FnR P w K mg base CX0 1 (He.ga K "need_place") (sp_need_place) := by
  refine mkR T.d_need_place sc_need_place (fun _ _ _ _ _ _ us hl => match us, hl with | [_, _], _ => rfl) (fun vs H Q E h => ?_) (fun cdv A outer s H vs Q E hr h => ?_)
  · obtain ⟨p, n, rfl, _⟩ := h
    rfl
  · obtain ⟨p, n, rfl, h1, h2, k⟩ := h
    refine ⟨_, (pss_one (ps_if (pt_not (pt_chain op_le op_lt pe_int (pv 0) (pv 1))) pss_never pss_nil)), ?_⟩
    refine ⟨_, rfl, _, _, rfl, rfl, _, rfl, ?_⟩
    rw [decide_eq_true h1]
    refine iteT ⟨_, rfl, _, _, rfl, rfl, _, rfl, ?_⟩
    rw [decide_eq_true h2]
    exact iteF k
def sp_need_played : Sp := fun vs H Q _ => ∃ n : Int, vs = [.int n] ∧ n ≤ 1000 ∧ Q .non H
theorem ok_need_played (T : Tx w K mg) : FnR P w K mg base CX0 1 (He.ga K "need_played") (sp_need_played) := by
  refine mkR T.d_need_played sc_need_played (fun _ _ _ _ _ _ us hl => match us, hl with | [_], _ => rfl) (fun vs H Q E h => ?_) (fun cdv A outer s H vs Q E hr h => ?_)
  · obtain ⟨n, rfl, _⟩ := h
    rfl
  · obtain ⟨n, rfl, h1, k⟩ := h
    refine ⟨_, (pss_one (ps_if (pt_cmpR op_gt (pv 0) (pe_glob (by rfl) T.i_MOST_PLAYED.choose_spec (v := .int 1000) ⟨_, rfl⟩) (nomark _)) pss_never pss_nil)), ?_⟩
    refine ⟨_, rfl, _, _, rfl, rfl, _, rfl, ?_⟩
    rw [decide_eq_false (show ¬ (1000 : Int) < n by omega)]
    exact iteF k
def sp_need_rounds : Sp := fun vs H Q _ => ∃ n : Int, vs = [.int n] ∧ -(10 ^ 30) ≤ n ∧ n ≤ 10 ^ 30 ∧ Q .non H
theorem ok_need_rounds (T : Tx w K mg) : FnR P w K mg base CX0 1 (He.ga K "need_rounds") (sp_need_rounds) := by
  refine mkR T.d_need_rounds sc_need_rounds (fun _ _ _ _ _ _ us hl => match us, hl with | [_], _ => rfl) (fun vs H Q E h => ?_) (fun cdv A outer s H vs Q E hr h => ?_)
  · obtain ⟨n, rfl, _⟩ := h
    rfl
  · obtain ⟨n, rfl, h1, h2, k⟩ := h
    refine ⟨_, (pss_one (ps_if (pt_not (pt_chain op_le op_le (pe_un un_neg (pe_glob (by rfl) T.i_MOST_ROUNDS.choose_spec (v := .int 1000000000000000000000000000000) ⟨_, rfl⟩)) (pv 0) (pe_glob (by rfl) T.i_MOST_ROUNDS.choose_spec (v := .int 1000000000000000000000000000000) ⟨_, rfl⟩))) pss_never pss_nil)), ?_⟩
    refine ⟨_, rfl, _, rfl, _, _, rfl, rfl, _, rfl, ?_⟩
    rw [decide_eq_true (show -1000000000000000000000000000000 ≤ n from h1)]
    refine iteT ⟨_, _, rfl, rfl, _, rfl, ?_⟩
    rw [decide_eq_true (show n ≤ 1000000000000000000000000000000 from h2)]
    exact iteF k
def sp_placed : Sp := fun vs H Q _ => ∃ (v : V) (a : EP) (n : Int), vs = [v, .int n] ∧ EpAt H v a ∧ Q (.int (placedF a n)) H
theorem ok_placed (T : Tx w K mg) : FnR P w K mg base CX0 1 (He.ga K "placed") (sp_placed) := by
  refine mkR T.d_placed sc_placed (fun _ _ _ _ _ _ us hl => match us, hl with | [_, _], _ => rfl) (fun vs H Q E h => ?_) (fun cdv A outer s H vs Q E hr h => ?_)
  · obtain ⟨v, a, n, rfl, _⟩ := h
    rfl
  · obtain ⟨v, ⟨a, d⟩, n, rfl, ⟨p, rfl, hp⟩, k⟩ := h
    refine ⟨_, (pss_cons (ps_asg (pv 0) (pg_tup (by rfl) (pgs_cons (pg_name (i := 2) sc_placed.nd rfl (Or.inl rfl)) (pgs_cons (pg_name (i := 3) sc_placed.nd rfl (Or.inl rfl)) pgs_nil)))) (pss_one (ps_ret (pe_ifExp (pt_cmpR op_eq (pv 2) pe_str (nomark _)) (pv 3) (pe_op op_sub (pe_op op_sub (pv 1) pe_int) (pv 3)))))), ?_⟩
    refine ⟨_, rfl, p, _, rfl, SqT.of hp, rfl, _, _, rfl, _, _, rfl, rfl, ?_⟩
    cases a with
    | true =>
      refine ⟨_, rfl, rfl, _, rfl, ?_⟩
      rw [decide_eq_true (show V.str (endS true) = V.str "top" from rfl)]
      exact iteT ⟨_, rfl, k⟩
    | false =>
      refine ⟨_, rfl, rfl, _, rfl, ?_⟩
      rw [decide_eq_false (show ¬ V.str (endS false) = V.str "top" by decide +kernel)]
      exact iteF ⟨_, rfl, _, _, rfl, rfl, _, rfl, _, _, rfl, rfl, k⟩
def sp_carried : Sp := fun vs H Q _ => ∃ s g p : Int, vs = [.int s, .int g, .int p] ∧ Q (.int (carriedF s g p)) H
theorem ok_carried (T : Tx w K mg) : FnR P w K mg base CX0 1 (He.ga K "carried") (sp_carried) := by
  refine mkR T.d_carried sc_carried (fun _ _ _ _ _ _ us hl => match us, hl with | [_, _, _], _ => rfl) (fun vs H Q E h => ?_) (fun cdv A outer s H vs Q E hr h => ?_)
  · obtain ⟨s, g, p, rfl, _⟩ := h
    rfl
  · obtain ⟨s, g, p, rfl, k⟩ := h
    unfold carriedF at k
    refine ⟨_, (pss_cons (ps_if (pt_cmpR op_eq (pv 2) (pv 0) (nomark _)) (pss_one (ps_ret (pv 1))) pss_nil) (pss_cons (ps_if (pt_chain op_lt op_le (pv 0) (pv 2) (pv 1)) (pss_one (ps_ret (pe_op op_sub (pv 2) pe_int))) pss_nil) (pss_one (ps_ret (pe_ifExp (pt_chain op_le op_lt (pv 1) (pv 2) (pv 0)) (pe_op op_add (pv 2) pe_int) (pv 2)))))), ?_⟩
    refine ⟨_, rfl, _, rfl, rfl, _, rfl, ?_⟩
    by_cases c1 : p = s
    · rw [if_pos c1] at k
      rw [decide_eq_true (show V.int p = V.int s by rw [c1])]
      exact iteT ⟨_, rfl, k⟩
    · rw [if_neg c1] at k
      rw [decide_eq_false (show ¬ V.int p = V.int s by intro e; injection e with e; exact c1 e)]
      refine iteF ⟨_, rfl, _, rfl, _, _, rfl, rfl, _, rfl, ?_⟩
      have tail : (¬ (s < p ∧ p ≤ g)) → tRet (tIf (tTest (tChain (rI0 fun i j => .bl (decide (i ≤ j))) (rI0 fun i j => .bl (decide (i < j))) (tVar 1) (tVar 2) (tVar 0))) (tOp (rI0 fun i j => .int (i + j)) (tVar 2) (tC (.int 1))) (tVar 2)) { nx := fun _ H' => Q .non H', rt := Q } (L2.start n_carried [V.int s, V.int g, V.int p]) H := by
        intro c2
        rw [if_neg c2] at k
        refine ⟨_, rfl, _, rfl, _, _, rfl, rfl, _, rfl, ?_⟩
        by_cases c3 : g ≤ p
        · rw [decide_eq_true c3]
          refine iteT ⟨_, rfl, _, _, rfl, rfl, _, rfl, ?_⟩
          by_cases c4 : p < s
          · rw [if_pos ⟨c3, c4⟩] at k
            rw [decide_eq_true c4]
            exact iteT ⟨_, rfl, _, _, rfl, rfl, k⟩
          · rw [if_neg (fun z => c4 z.2)] at k
            rw [decide_eq_false c4]
            exact iteF ⟨_, rfl, k⟩
        · rw [if_neg (fun z => c3 z.1)] at k
          rw [decide_eq_false c3]
          exact iteF ⟨_, rfl, iteF ⟨_, rfl, k⟩⟩
      by_cases c2 : s < p
      · rw [decide_eq_true c2]
        refine iteT ⟨_, rfl, _, _, rfl, rfl, _, rfl, ?_⟩
        by_cases c3 : p ≤ g
        · rw [if_pos ⟨c2, c3⟩] at k
          rw [decide_eq_true c3]
          exact iteT ⟨_, rfl, _, _, rfl, rfl, k⟩
        · rw [decide_eq_false c3]
          exact iteF (tail fun z => c3 z.2)
      · rw [decide_eq_false c2]
        exact iteF ⟨_, rfl, iteF (tail fun z => c2 z.1)⟩
end
end Pp

set_option Elab.async false
set_option linter.all false
set_option maxRecDepth 100000
set_option maxHeartbeats 4000000
/-! moves: each def once -/
namespace Pp
open PySem PySem.Spec PyProof.Rows L2
section
variable {P : Program} {w : World} {K : PySem.W.Frag} {mg : Str → Option Value} {base : Heap}
theorem ends_in (T : Tx w K mg) (e : Bool) : ∃ r, PySem.W.nsIn K (He.ga K "ENDS") (endS e) = some r ∧ r.isSome = true := by
  have h : He.valsB K (He.ga K "ENDS") [("top", .str "t"), ("bottom", .str "b")] = true := T.va_ENDS
  cases e with
  | true =>
    obtain ⟨u, h1, _⟩ := He.valsB_ok h (q := ("top", .str "t")) (by simp)
    exact ⟨_, h1, rfl⟩
  | false =>
    obtain ⟨u, h1, _⟩ := He.valsB_ok h (q := ("bottom", .str "b")) (by simp)
    exact ⟨_, h1, rfl⟩
def mvS : Mv → Str × Str
  | .swap _ _ => ("swap", "pp")
  | .carry _ _ => ("carry", "pp")
  | .cut _ => ("cut", "k")
  | .turn _ _ => ("turn", "eb")
  | .over => ("over", "")
  | .face _ => ("face", "p")
theorem shapes_in (T : Tx w K mg) (m : Mv) : ∃ u, PySem.W.nsIn K (He.ga K "SHAPES") (mvS m).1 = some (some u) ∧ RelV (.str (mvS m).2) u := by
  have h : He.valsB K (He.ga K "SHAPES") [("swap", .str "pp"), ("carry", .str "pp"), ("cut", .str "k"), ("turn", .str "eb"), ("over", .str ""), ("face", .str "p")] = true := T.va_SHAPES
  cases m with
  | swap a b => exact He.valsB_ok h (q := ("swap", .str "pp")) (by simp)
  | carry a b => exact He.valsB_ok h (q := ("carry", .str "pp")) (by simp)
  | cut k => exact He.valsB_ok h (q := ("cut", .str "k")) (by simp)
  | turn e k => exact He.valsB_ok h (q := ("turn", .str "eb")) (by simp)
  | over => exact He.valsB_ok h (q := ("over", .str "")) (by simp)
  | face a => exact He.valsB_ok h (q := ("face", .str "p")) (by simp)
theorem shapes_kd (T : Tx w K mg) (m : Mv) : KDct K w (He.ga K "SHAPES") (mvS m).1 (.str (mvS m).2) := by
  obtain ⟨es, n, D⟩ := T.t_SHAPES
  obtain ⟨u, hu, ru⟩ := shapes_in T m
  exact ⟨es, n, u, D.at_, D.lit, hu, ru⟩
/-- what may stand at a sign -/
def ItemOk (H : Hp) (z : Str) (v : V) : Prop := (z = "p" ∧ ∃ a : EP, EpAt H v a ∧ a.ok) ∨ (z = "e" ∧ ∃ e, v = .str (endS e)) ∨ (z = "k" ∧ ∃ i : Int, v = .int i ∧ -400 ≤ i ∧ i ≤ 400) ∨ (z = "b" ∧ ∃ i : Int, v = .int i ∧ 0 ≤ i ∧ i ≤ 400)
def sp_is_item : Sp := fun vs H Q _ => ∃ (z : Str) (v : V), vs = [.str z, v] ∧ ItemOk H z v ∧ Q (.bl true) H
theorem ok_is_item (T : Tx w K mg) : FnR P w K mg base CX0 1 (He.ga K "is_item") (sp_is_item) := by
  refine mkR T.d_is_item sc_is_item (fun _ _ _ _ _ _ us hl => match us, hl with | [_, _], _ => rfl) (fun vs H Q E h => ?_) (fun cdv A outer s H vs Q E hr h => ?_)
  · obtain ⟨z, v, rfl, _⟩ := h
    rfl
  · obtain ⟨z, v, rfl, hi, k⟩ := h
    refine ⟨_, (pss_cons (ps_if (pt_cmpR op_eq (pv 0) pe_str (nomark _)) (pss_one (ps_ret (pe_and (pe_callB call_isi (by rfl) T.f_isinstance (by decide +kernel) (pa_cons (pv 1) (pa_cons (pe_bltn (v := .ty "tuple") (by rfl) T.f_tuple (by decide +kernel) rfl) pa_nil))) (pe_and (pe_cmpR op_eq (pe_callB call_len_seq (by rfl) T.f_len (by decide +kernel) (pa_cons (pv 1) pa_nil)) pe_int (nomark _)) (pe_and (pe_cmpR (op_in_kd T.t_ENDS.choose_spec.choose_spec) (pe_ix ix_tup (pv 1) pe_int (fun _ _ => rfl)) (pe_glob (by rfl) T.g_ENDS (v := .ref (He.ga K "ENDS")) rfl) (by rfl)) (pe_one (pe_chain op_le op_le pe_int (pe_ix ix_tup (pv 1) pe_int (fun _ _ => rfl)) (pe_glob (by rfl) T.i_MOST_DEPTH.choose_spec (v := .int 399) ⟨_, rfl⟩)))))))) pss_nil) (pss_cons (ps_if (pt_cmpR op_eq (pv 0) pe_str (nomark _)) (pss_one (ps_ret (pe_cmpR (op_in_kd T.t_ENDS.choose_spec.choose_spec) (pv 1) (pe_glob (by rfl) T.g_ENDS (v := .ref (He.ga K "ENDS")) rfl) (by rfl)))) pss_nil) (pss_one (ps_ret (pe_and (pe_callB call_isi (by rfl) T.f_isinstance (by decide +kernel) (pa_cons (pv 1) (pa_cons (pe_bltn (v := .ty "int") (by rfl) T.f_int (by decide +kernel) rfl) pa_nil))) (pe_one (pe_chain op_le op_le (pe_ifExp (pt_cmpR op_eq (pv 0) pe_str (nomark _)) (pe_un un_neg (pe_glob (by rfl) T.i_MOST_BLOCK.choose_spec (v := .int 400) ⟨_, rfl⟩)) pe_int) (pv 1) (pe_glob (by rfl) T.i_MOST_BLOCK.choose_spec (v := .int 400) ⟨_, rfl⟩)))))))), ?_⟩
    refine ⟨_, rfl, rfl, _, rfl, ?_⟩
    rcases hi with ⟨rfl, ⟨a, d⟩, ⟨p, rfl, hp⟩, h1, h2⟩ | ⟨rfl, e, rfl⟩ | ⟨rfl, i, rfl, h1, h2⟩ | ⟨rfl, i, rfl, h1, h2⟩
    · rw [decide_eq_true (show V.str "p" = V.str "p" from rfl)]
      refine iteT ⟨_, rfl, _, _, _, _, true, rfl, .ty _, .base (.tup hp), kit_ty (by decide +kernel), _, rfl, iteT ?_⟩
      refine ⟨_, rfl, p, _, rfl, .inr (SqT.of hp), rfl, _, rfl, iteT ?_⟩
      obtain ⟨r, hr1, hr2⟩ := ends_in T a
      refine ⟨_, rfl, p, _, 0, _, rfl, rfl, SqT.of hp, atI_nat (j := 0) rfl, _, _, rfl, rfl, hr1, _, rfl, ?_⟩
      rw [hr2]
      refine iteT ⟨_, rfl, p, _, 1, _, rfl, rfl, SqT.of hp, atI_nat (j := 1) rfl, _, _, rfl, rfl, _, rfl, ?_⟩
      have h1' : (0 : Int) ≤ d := h1
      have h2' : d ≤ 3 := h2
      rw [decide_eq_true h1']
      refine iteT ⟨_, _, rfl, rfl, ?_⟩
      show Q (.bl (decide (d ≤ 399))) H
      rw [decide_eq_true (show d ≤ 399 by omega)]
      exact k
    · rw [decide_eq_false (show ¬ V.str "e" = V.str "p" by decide +kernel)]
      refine iteF ⟨_, rfl, rfl, _, rfl, ?_⟩
      rw [decide_eq_true (show V.str "e" = V.str "e" from rfl)]
      obtain ⟨r, hr1, hr2⟩ := ends_in T e
      refine iteT ⟨_, rfl, _, _, rfl, rfl, hr1, ?_⟩
      rw [hr2]
      exact k
    · rw [decide_eq_false (show ¬ V.str "k" = V.str "p" by decide +kernel)]
      refine iteF ⟨_, rfl, rfl, _, rfl, ?_⟩
      rw [decide_eq_false (show ¬ V.str "k" = V.str "e" by decide +kernel)]
      refine iteF ⟨_, rfl, _, _, _, _, true, rfl, .ty _, .base (.int i), kit_ty (by decide +kernel), _, rfl, iteT ?_⟩
      refine ⟨_, rfl, rfl, _, rfl, ?_⟩
      rw [decide_eq_true (show V.str "k" = V.str "k" from rfl)]
      refine iteT ⟨_, rfl, _, rfl, _, _, rfl, rfl, _, rfl, ?_⟩
      rw [decide_eq_true (show -400 ≤ i from h1)]
      refine iteT ⟨_, _, rfl, rfl, ?_⟩
      show Q (.bl (decide (i ≤ 400))) H
      rw [decide_eq_true h2]
      exact k
    · rw [decide_eq_false (show ¬ V.str "b" = V.str "p" by decide +kernel)]
      refine iteF ⟨_, rfl, rfl, _, rfl, ?_⟩
      rw [decide_eq_false (show ¬ V.str "b" = V.str "e" by decide +kernel)]
      refine iteF ⟨_, rfl, _, _, _, _, true, rfl, .ty _, .base (.int i), kit_ty (by decide +kernel), _, rfl, iteT ?_⟩
      refine ⟨_, rfl, rfl, _, rfl, ?_⟩
      rw [decide_eq_false (show ¬ V.str "b" = V.str "k" by decide +kernel)]
      refine iteF ⟨_, rfl, _, _, rfl, rfl, _, rfl, ?_⟩
      rw [decide_eq_true (show 0 ≤ i from h1)]
      refine iteT ⟨_, _, rfl, rfl, ?_⟩
      show Q (.bl (decide (i ≤ 400))) H
      rw [decide_eq_true h2]
      exact k
/-- a move's data -/
def epD (a : EP) : PyData := .tuple [.str (endS a.1), .int a.2]
def mvI : Mv → List PyData
  | .swap a b => [epD a, epD b]
  | .carry a b => [epD a, epD b]
  | .cut k => [.int k]
  | .turn e k => [.str (endS e), .int k]
  | .over => []
  | .face a => [epD a]
def mvD (m : Mv) : PyData := .tuple (.str (mvS m).1 :: mvI m)
theorem ep_dp {H : Hp} {v : V} {a : EP} (h : EpAt H v a) : Dp K H v (epD a) := by
  obtain ⟨p, rfl, hp⟩ := h
  exact .tup (SqT.of hp) (.cons (.str _) (.cons (.int _) .nil))
/-- a move: its tuple, its items -/
theorem mv_parts {H : Hp} {v : V} {m : Mv} (h : MvAt H v m) (ok : m.ok) : ∃ (p : Addr) (xs : List V), v = .ref p ∧ H p = some (.tup (.str (mvS m).1 :: xs)) ∧ DpAll K H xs (mvI m) ∧ xs.length = (mvS m).2.cps.size ∧
    ∀ (i : Nat) (x : V), xs[i]? = some x → ∃ c, (mvS m).2.cps[i]? = some c ∧ ItemOk H ⟨#[c]⟩ x := by
  cases m with
  | swap a b =>
    obtain ⟨p, x, y, rfl, hp, ha, hb⟩ := h
    refine ⟨p, [x, y], rfl, hp, .cons (ep_dp ha) (.cons (ep_dp hb) .nil), rfl, fun i z hz => ?_⟩
    match i, hz with
    | 0, hz =>
      cases hz
      exact ⟨_, rfl, .inl ⟨rfl, a, ha, ok.1⟩⟩
    | 1, hz =>
      cases hz
      exact ⟨_, rfl, .inl ⟨rfl, b, hb, ok.2⟩⟩
  | carry a b =>
    obtain ⟨p, x, y, rfl, hp, ha, hb⟩ := h
    refine ⟨p, [x, y], rfl, hp, .cons (ep_dp ha) (.cons (ep_dp hb) .nil), rfl, fun i z hz => ?_⟩
    match i, hz with
    | 0, hz =>
      cases hz
      exact ⟨_, rfl, .inl ⟨rfl, a, ha, ok.1⟩⟩
    | 1, hz =>
      cases hz
      exact ⟨_, rfl, .inl ⟨rfl, b, hb, ok.2⟩⟩
  | cut k =>
    obtain ⟨p, rfl, hp⟩ := h
    refine ⟨p, [.int k], rfl, hp, .cons (.int _) .nil, rfl, fun i z hz => ?_⟩
    match i, hz with
    | 0, hz =>
      cases hz
      exact ⟨_, rfl, .inr (.inr (.inl ⟨rfl, k, rfl, by have := ok.1; omega, by have := ok.2; omega⟩))⟩
  | turn e k =>
    obtain ⟨p, rfl, hp⟩ := h
    refine ⟨p, [.str (endS e), .int k], rfl, hp, .cons (.str _) (.cons (.int _) .nil), rfl, fun i z hz => ?_⟩
    match i, hz with
    | 0, hz =>
      cases hz
      exact ⟨_, rfl, .inr (.inl ⟨rfl, e, rfl⟩)⟩
    | 1, hz =>
      cases hz
      exact ⟨_, rfl, .inr (.inr (.inr ⟨rfl, k, rfl, ok.1, by have := ok.2; omega⟩))⟩
  | over =>
    obtain ⟨p, rfl, hp⟩ := h
    exact ⟨p, [], rfl, hp, .nil, rfl, fun i z hz => by simp at hz⟩
  | face a =>
    obtain ⟨p, x, rfl, hp, ha⟩ := h
    refine ⟨p, [x], rfl, hp, .cons (ep_dp ha) .nil, rfl, fun i z hz => ?_⟩
    match i, hz with
    | 0, hz =>
      cases hz
      exact ⟨_, rfl, .inl ⟨rfl, a, ha, ok⟩⟩
theorem endS_ok (b : Bool) : PyData.strOk (endS b) = true := by cases b <;> decide +kernel
theorem mvD_shaped (m : Mv) : SeqAt.shaped (mvD m) = true := by
  show ((mvD m).canLay0 && decide ((mvD m).depth ≤ 64)) = true
  have e1 : PyData.strOk "swap" = true := by decide +kernel
  have e2 : PyData.strOk "carry" = true := by decide +kernel
  have e3 : PyData.strOk "cut" = true := by decide +kernel
  have e4 : PyData.strOk "turn" = true := by decide +kernel
  have e5 : PyData.strOk "over" = true := by decide +kernel
  have e6 : PyData.strOk "face" = true := by decide +kernel
  cases m <;> simp [mvD, mvI, mvS, epD, PyData.canLay0, PyData.canLayAll0, PyData.depth, PyData.depthAll, endS_ok, e1, e2, e3, e4, e5, e6]
theorem mvS_len (m : Mv) : (mvS m).2.length = (mvS m).2.cps.size := by cases m <;> rfl
theorem mvS_small (m : Mv) : (mvS m).2.cps.size ≤ 2 := by
  have a : ("pp" : Str).cps.size ≤ 2 := by decide +kernel
  have b : ("k" : Str).cps.size ≤ 2 := by decide +kernel
  have c : ("eb" : Str).cps.size ≤ 2 := by decide +kernel
  have d : ("" : Str).cps.size ≤ 2 := by decide +kernel
  have e : ("p" : Str).cps.size ≤ 2 := by decide +kernel
  cases m <;> first | exact a | exact b | exact c | exact d | exact e
mutual
theorem dp_mono {K : PySem.W.Frag} {H H' : Hp} (ex : Ex H H') : ∀ {v : V} {d : PyData}, Dp K H v d → Dp K H' v d
  | _, _, .non => .non
  | _, _, .bl b => .bl b
  | _, _, .int i => .int i
  | _, _, .str x => .str x
  | _, _, .lst h t => .lst (ex.l h) (dpAll_mono ex t)
  | _, _, .tup h t => .tup (ex.t h) (dpAll_mono ex t)
theorem dpAll_mono {K : PySem.W.Frag} {H H' : Hp} (ex : Ex H H') : ∀ {vs : List V} {ds : List PyData}, DpAll K H vs ds → DpAll K H' vs ds
  | _, _, .nil => .nil
  | _, _, .cons h t => .cons (dp_mono ex h) (dpAll_mono ex t)
end
theorem ItemOk.mono {H H' : Hp} (e : En H H') {z : Str} {v : V} (h : ItemOk H z v) : ItemOk H' z v := by
  rcases h with ⟨h, a, h1, h2⟩ | h | h | h
  · exact .inl ⟨h, a, h1.mono e, h2⟩
  · exact .inr (.inl h)
  · exact .inr (.inr (.inl h))
  · exact .inr (.inr (.inr h))
theorem all_true : ∀ n : Nat, (List.replicate n true).all id = true
  | 0 => rfl
  | n + 1 => by rw [List.replicate_succ, List.all_cons, all_true n] <;> rfl
def sp_is_move : Sp := fun vs H Q _ => ∃ (v : V) (m : Mv), vs = [v] ∧ MvAt H v m ∧ m.ok ∧ ∀ H', Ex H H' → Q (.bl true) H'
theorem ok_is_move (T : Tx w K mg) : FnR P w K mg base CX0 2 (He.ga K "is_move") (sp_is_move) := by
  refine mkR T.d_is_move sc_is_move (fun _ _ _ _ _ _ us hl => match us, hl with | [_], _ => rfl) (fun vs H Q E h => ?_) (fun cdv A outer s H vs Q E hr h => ?_)
  · obtain ⟨v, m, rfl, _⟩ := h
    rfl
  · obtain ⟨v, m, rfl, hm, ok, k⟩ := h
    obtain ⟨p, xs, rfl, hp, hd, hl, hx⟩ := mv_parts (K := K) hm ok
    have hs2 := mvS_small m
    obtain ⟨u, hu, ru⟩ := shapes_in T m
    have kd := shapes_kd T m
    refine ⟨_, (pss_cons (ps_if (PW.pt (pw_or (pt_cmpR (op_eqD hr.units) (pv 0) (pe_tup pa_nil) (nomark _)) (pw_or (pt_cmpR (op_notIn_kd T.t_SHAPES.choose_spec.choose_spec) (pe_ix ix_tup (pv 0) pe_int (fun _ _ => rfl)) (pe_glob (by rfl) T.g_SHAPES (v := .ref (He.ga K "SHAPES")) rfl) (by rfl)) (pw_or1 (pt_cmpR op_ne (pe_callB call_len_seq (by rfl) T.f_len (by decide +kernel) (pa_cons (pv 0) pa_nil)) (pe_op op_add (pe_callB call_len_str (by rfl) T.f_len (by decide +kernel) (pa_cons (pe_ix ix_kdict (pe_glob (by rfl) T.g_SHAPES (v := .ref (He.ga K "SHAPES")) rfl) (pe_ix ix_tup (pv 0) pe_int (fun _ _ => rfl)) (fun _ _ => rfl)) pa_nil)) pe_int) (nomark _)))))) (pss_one (ps_ret pe_bl)) pss_nil) (pss_one (ps_ret (pe_callB (cr_all rfl) (by rfl) T.f_all (by decide +kernel) (pa_cons (pe_lc (own := [("sign", 1), ("item", 2)]) (g := gTup K 2 (gCons (gName 1) (gCons (gName 2) gNil))) (by rfl) sc_is_move.nd (pi_zipS (by rfl) T.f_zip (pa_cons (pe_ix ix_kdict (pe_glob (by rfl) T.g_SHAPES (v := .ref (He.ga K "SHAPES")) rfl) (pe_ix ix_tup (pv 0) pe_int (fun _ _ => rfl)) (fun _ _ => rfl)) (pa_cons (pe_slice sl_tup (pv 0) (po_some pe_int) po_none) pa_nil))) (blkOk_by (own := [("sign", 1), ("item", 2)]) (N := n_is_move) (sc := defScope s_is_move) (by decide +kernel)) (fun _ _ _ _ _ => (pg_tup (by rfl) (pgs_cons (pg_name (i := 1) sc_is_move.nd rfl (Or.inl rfl)) (pgs_cons (pg_name (i := 2) sc_is_move.nd rfl (Or.inl rfl)) pgs_nil)))) (fun _ _ _ _ _ => pts_nil) (fun _ _ _ _ _ => (c_call (ok_is_item T) (hr.mono (by decide)) (by rfl) T.g_is_item (kp_of T.d_is_item) (pa_cons (pv 1) (pa_cons (pv 2) pa_nil))))) pa_nil))))), ?_⟩
    refine ⟨_, rfl, Nat.zero_le _, fun p1 n1 => ?_⟩
    generalize hh1 : upd _ p1 _ = H1; obtain ⟨e1, t1⟩ := upd_facts n1 hh1; clear hh1
    have hp1 := e1 _ _ hp
    refine ⟨mvD m, .tuple [], .tup (SqT.of hp1) (.cons (.str _) ?_), .tup (SqT.of t1) .nil, mvD_shaped m, by decide +kernel, _, rfl, ?_⟩
    · exact dpAll_mono e1 hd
    have eq0 : PyData.eqv (mvD m) (.tuple []) = false := by simp [mvD, PyData.eqv, PyData.eqvAll]
    rw [eq0]
    refine iteF ⟨_, rfl, p, _, 0, _, rfl, rfl, SqT.of hp1, atI_nat (j := 0) rfl, _, _, rfl, rfl, hu, _, rfl, iteF ?_⟩
    refine ⟨_, rfl, p, _, rfl, .inr (SqT.of hp1), _, rfl, p, _, 0, _, rfl, rfl, SqT.of hp1, atI_nat (j := 0) rfl, _, _, _, rfl, rfl, kd, _, rfl, ?_, _, _, rfl, rfl, rfl, _, rfl, ?_⟩
    · rw [mvS_len]
      exact sz4 (by omega)
    have eqL : decide (V.int ((V.str (mvS m).1 :: xs).length : Nat) = V.int (((mvS m).2.length : Nat) + 1)) = true := decide_eq_true (by rw [mvS_len, ← hl] <;> rfl)
    have eqL2 : (!decide (V.int ((V.str (mvS m).1 :: xs).length : Nat) = V.int (((mvS m).2.length : Nat) + 1))) = false := by rw [eqL] <;> rfl
    refine (show (if (!decide (V.int ((V.str (mvS m).1 :: xs).length : Nat) = V.int (((mvS m).2.length : Nat) + 1))) = true then _ else _) from ?_)
    rw [eqL2]
    refine iteF ?_
    refine ⟨_, rfl, p, _, 0, _, rfl, rfl, SqT.of hp1, atI_nat (j := 0) rfl, _, _, _, rfl, rfl, kd, _, rfl, 1, rfl, p, _, rfl, SqT.of hp1, ?_, fun p2 n2 => ?_⟩
    · intro z
      have z1 := z.1
      rw [show HT.sIx (V.str (mvS m).1 :: xs).length 0 (some 1) = min 1 (xs.length + 1) from HT.sIx_nat _ 0 1] at z1
      omega
    generalize hh2 : upd _ p2 _ = H2; obtain ⟨e2, t2⟩ := upd_facts n2 hh2; clear hh2
    have ec : cutV (V.str (mvS m).1 :: xs) (some 1) none = xs := by
      unfold cutV
      rw [show HT.sIx (V.str (mvS m).1 :: xs).length 0 (some 1) = min 1 (xs.length + 1) from HT.sIx_nat _ 0 1, show min 1 (xs.length + 1) = 1 by omega, HT.sIx_none]
      show xs.take (xs.length + 1 - 1) = xs
      rw [show xs.length + 1 - 1 = xs.length by omega, List.take_length]
    rw [ec] at t2
    refine ⟨_, p2, xs, rfl, SqT.of t2, fun D hD => lcx (walk_zipS (K := K) (b := p2) (xs := xs) hl.symm) hD (by omega) (fun i acc _ => acc = (List.replicate i true).map V.bl) (fun H' e => e.t (SqT.of t2)) (fun _ _ _ _ _ h => h) rfl (fun i x H3 H4 kk hi e3 y kq => ?_) (fun acc H3 e3 ha hl3 hacc => ?_)⟩
    · obtain ⟨tp, a, b, rfl, nt, rfl, ha, hb⟩ := y
      obtain ⟨c, hc, hit⟩ := hx i b hb
      have ha' : (mvS m).2.cps[i]?.map (fun c => V.str ⟨#[c]⟩) = some a := ha
      rw [hc] at ha'
      cases ha'
      refine ⟨tp, _, rfl, SqT.of upd_same, rfl, _, _, rfl, _, _, rfl, rfl, rfl, ?_⟩
      refine ⟨_, rfl, _, rfl, _, _, rfl, hit.mono ((((e1.trans e2).trans e3).trans (Ex.new nt)).n), kq _ _ (Ex.new nt) fun acc hal hr => ?_⟩
      rw [hr, List.replicate_succ', List.map_append] <;> rfl
    · subst hacc
      refine ⟨D, List.replicate xs.length true, rfl, SqL.of ha, ?_⟩
      rw [all_true]
      exact k _ ((e1.trans e2).trans e3)
end
end Pp

set_option Elab.async false
set_option linter.all false
set_option maxRecDepth 100000
set_option maxHeartbeats 4000000
/-! what a move does -/
namespace Pp
open PySem PySem.Spec PyProof.Rows L2
section
variable {P : Program} {w : World} {K : PySem.W.Frag} {mg : Str → Option Value} {base : Heap}
theorem mHit {zs : List Str} {t : TS} {r : V → TS} {z : Str} {D : Ends} {σ : L2.St} {H : Hp} (h : zs.any (fun y => decide (z = y)) = true) (q : t D σ H) : mCons zs t r (.str z) D σ H := ⟨z, rfl, by rw [if_pos h]; exact q⟩
theorem mMiss {zs : List Str} {t : TS} {r : V → TS} {z : Str} {D : Ends} {σ : L2.St} {H : Hp} (h : zs.any (fun y => decide (z = y)) = false) (q : r (.str z) D σ H) : mCons zs t r (.str z) D σ H := ⟨z, rfl, by rw [h, if_neg Bool.false_ne_true]; exact q⟩
def sp_depth_of : Sp := fun vs H Q _ => ∃ (v : V) (m : Mv), vs = [v] ∧ MvAt H v m ∧ Q (.int m.depth) H
theorem ok_depth_of (T : Tx w K mg) : FnR P w K mg base CX0 1 (He.ga K "depth_of") (sp_depth_of) := by
  refine mkR T.d_depth_of sc_depth_of (fun _ _ _ _ _ _ us hl => match us, hl with | [_], _ => rfl) (fun vs H Q E h => ?_) (fun cdv A outer s H vs Q E hr h => ?_)
  · obtain ⟨v, m, rfl, _⟩ := h
    rfl
  · obtain ⟨v, m, rfl, hm, k⟩ := h
    refine ⟨_, (pss_cons (ps_match (pe_ix ix_tup (pv 0) pe_int (fun _ _ => rfl)) (pm_cons (ppat_or2 ppat_str ppat_str rfl) (pss_one (ps_ret (pe_op op_add (pe_callB (call_max2 rfl) (by rfl) T.f_max (by decide +kernel) (pa_cons (pe_ix ix_tup (pe_ix ix_tup (pv 0) pe_int (fun _ _ => rfl)) pe_int (fun _ _ => rfl)) (pa_cons (pe_ix ix_tup (pe_ix ix_tup (pv 0) pe_int (fun _ _ => rfl)) pe_int (fun _ _ => rfl)) pa_nil))) pe_int))) (pm_cons ppat_str (pss_one (ps_ret (pe_op op_add (pe_ix ix_tup (pe_ix ix_tup (pv 0) pe_int (fun _ _ => rfl)) pe_int (fun _ _ => rfl)) pe_int))) (pm_cons ppat_str (pss_one (ps_ret (pe_callB call_abs (by rfl) T.f_abs (by decide +kernel) (pa_cons (pe_ix ix_tup (pv 0) pe_int (fun _ _ => rfl)) pa_nil)))) (pm_cons ppat_str (pss_one (ps_ret (pe_ix ix_tup (pv 0) pe_int (fun _ _ => rfl)))) pm_nil))))) (pss_one (ps_ret pe_int))), ?_⟩
    cases m with
    | swap a b =>
      obtain ⟨p, x, y, rfl, hp, ⟨xa, rfl, ha⟩, ⟨xb, rfl, hb⟩⟩ := hm
      refine ⟨_, rfl, p, _, 0, _, rfl, rfl, SqT.of hp, atI_nat (j := 0) rfl, mHit (by decide +kernel) ?_⟩
      exact ⟨_, rfl, p, _, 1, _, rfl, rfl, SqT.of hp, atI_nat (j := 1) rfl, xa, _, 1, _, rfl, rfl, SqT.of ha, atI_nat (j := 1) rfl, _, rfl, p, _, 2, _, rfl, rfl, SqT.of hp, atI_nat (j := 2) rfl, xb, _, 1, _, rfl, rfl, SqT.of hb, atI_nat (j := 1) rfl, _, _, rfl, _, _, rfl, rfl, k⟩
    | carry a b =>
      obtain ⟨p, x, y, rfl, hp, ⟨xa, rfl, ha⟩, ⟨xb, rfl, hb⟩⟩ := hm
      refine ⟨_, rfl, p, _, 0, _, rfl, rfl, SqT.of hp, atI_nat (j := 0) rfl, mHit (by decide +kernel) ?_⟩
      exact ⟨_, rfl, p, _, 1, _, rfl, rfl, SqT.of hp, atI_nat (j := 1) rfl, xa, _, 1, _, rfl, rfl, SqT.of ha, atI_nat (j := 1) rfl, _, rfl, p, _, 2, _, rfl, rfl, SqT.of hp, atI_nat (j := 2) rfl, xb, _, 1, _, rfl, rfl, SqT.of hb, atI_nat (j := 1) rfl, _, _, rfl, _, _, rfl, rfl, k⟩
    | face a =>
      obtain ⟨p, x, rfl, hp, ⟨xa, rfl, ha⟩⟩ := hm
      refine ⟨_, rfl, p, _, 0, _, rfl, rfl, SqT.of hp, atI_nat (j := 0) rfl, mMiss (by decide +kernel) (mHit (by decide +kernel) ?_)⟩
      exact ⟨_, rfl, p, _, 1, _, rfl, rfl, SqT.of hp, atI_nat (j := 1) rfl, xa, _, 1, _, rfl, rfl, SqT.of ha, atI_nat (j := 1) rfl, _, _, rfl, rfl, k⟩
    | cut i =>
      obtain ⟨p, rfl, hp⟩ := hm
      refine ⟨_, rfl, p, _, 0, _, rfl, rfl, SqT.of hp, atI_nat (j := 0) rfl, mMiss (by decide +kernel) (mMiss (by decide +kernel) (mHit (by decide +kernel) ?_))⟩
      exact ⟨_, rfl, p, _, 1, _, rfl, rfl, SqT.of hp, atI_nat (j := 1) rfl, _, rfl, k⟩
    | turn e i =>
      obtain ⟨p, rfl, hp⟩ := hm
      refine ⟨_, rfl, p, _, 0, _, rfl, rfl, SqT.of hp, atI_nat (j := 0) rfl, mMiss (by decide +kernel) (mMiss (by decide +kernel) (mMiss (by decide +kernel) (mHit (by decide +kernel) ?_)))⟩
      exact ⟨_, rfl, p, _, 2, _, rfl, rfl, SqT.of hp, atI_nat (j := 2) rfl, k⟩
    | over =>
      obtain ⟨p, rfl, hp⟩ := hm
      exact ⟨_, rfl, p, _, 0, _, rfl, rfl, SqT.of hp, atI_nat (j := 0) rfl, mMiss (by decide +kernel) (mMiss (by decide +kernel) (mMiss (by decide +kernel) (mMiss (by decide +kernel) k)))⟩
theorem eqV_int {a b : Int} : eqV (.int a) (.int b) = decide (a = b) := rfl
theorem dec_comm (a b : Int) : decide (a = b) = decide (b = a) := by
  by_cases h : a = b
  · rw [h]
  · rw [decide_eq_false h, decide_eq_false (fun e => h e.symm)]
theorem not_cut1 {xs : List V} {x : V} : ¬ (HT.sIx (x :: xs).length 0 (some 1) = 0 ∧ HT.sIx (x :: xs).length (x :: xs).length none = (x :: xs).length) := by
  intro z
  have z1 := z.1
  rw [show HT.sIx (x :: xs).length 0 (some 1) = min 1 (xs.length + 1) from HT.sIx_nat _ 0 1] at z1
  omega
theorem dec_int {i j : Int} : decide (V.int i = V.int j) = decide (i = j) := by
  by_cases h : i = j
  · rw [decide_eq_true h, decide_eq_true (by rw [h])]
  · rw [decide_eq_false h, decide_eq_false (by intro e; injection e with e; exact h e)]
def PairAt (H : Hp) (v : V) (x : Int × Bool) : Prop := ∃ p, v = .ref p ∧ H p = some (.tup [.int x.1, .bl x.2])
theorem PairAt.mono {H H' : Hp} (e : Ex H H') {v : V} {x : Int × Bool} (h : PairAt H v x) : PairAt H' v x := let ⟨p, h1, h2⟩ := h; ⟨p, h1, e _ _ h2⟩
def sp_moved : Sp := fun vs H Q _ => ∃ (v : V) (m : Mv) (n p : Int), vs = [v, .int n, .int p] ∧ MvAt H v m ∧ 0 < n ∧ ∀ v' H', Ex H H' → PairAt H' v' (movedF m n p) → Q v' H'
theorem ok_moved (T : Tx w K mg) : FnR P w K mg base CX0 2 (He.ga K "moved") (sp_moved) := by
  refine mkR T.d_moved sc_moved (fun _ _ _ _ _ _ us hl => match us, hl with | [_, _, _], _ => rfl) (fun vs H Q E h => ?_) (fun cdv A outer s H vs Q E hr h => ?_)
  · obtain ⟨v, m, n, p, rfl, _⟩ := h
    rfl
  · obtain ⟨v, m, n, p, rfl, hm, hn, k⟩ := h
    refine ⟨_, (pss_cons (ps_if (pt_cmpR op_gt (c_call (ok_depth_of T) (hr.mono (by decide)) (by rfl) T.g_depth_of (kp_of T.d_depth_of) (pa_cons (pv 0) pa_nil)) (pv 1) (nomark _)) (pss_one (ps_ret (pe_tup (pa_cons (pv 2) (pa_cons pe_bl pa_nil))))) pss_nil) (pss_cons (ps_match (pe_ix ix_tup (pv 0) pe_int (fun _ _ => rfl)) (pm_cons ppat_str (pss_cons (ps_set (i := 3) sc_moved.nd rfl (Or.inl rfl) (pe_lst (pa_cons (c_call (ok_placed T) (hr.mono (by decide)) (by rfl) T.g_placed (kp_of T.d_placed) (pa_cons (pe_ix ix_tup (pv 0) pe_int (fun _ _ => rfl)) (pa_cons (pv 1) pa_nil))) (pa_cons (c_call (ok_placed T) (hr.mono (by decide)) (by rfl) T.g_placed (kp_of T.d_placed) (pa_cons (pe_ix ix_tup (pv 0) pe_int (fun _ _ => rfl)) (pa_cons (pv 1) pa_nil))) pa_nil)))) (pss_one (ps_ret (pe_ifExp (pt_cmpR op_in_seq (pv 2) (pv 3) (by rfl)) (pe_tup (pa_cons (pe_ix ix_list (pv 3) (pe_op op_sub pe_int (pe_bm PySem.F.plainAttrs_list PySem.F.slot_list_index PySem.F.type_list_index mt_index (pv 3) (pa_cons (pv 2) pa_nil))) (fun _ _ => rfl)) (pa_cons pe_bl pa_nil))) (pe_tup (pa_cons (pv 2) (pa_cons pe_bl pa_nil))))))) (pm_cons ppat_str (pss_one (ps_ret (pe_tup (pa_cons (c_call (ok_carried T) (hr.mono (by decide)) (by rfl) T.g_carried (kp_of T.d_carried) (pa_cons (c_call (ok_placed T) (hr.mono (by decide)) (by rfl) T.g_placed (kp_of T.d_placed) (pa_cons (pe_ix ix_tup (pv 0) pe_int (fun _ _ => rfl)) (pa_cons (pv 1) pa_nil))) (pa_cons (c_call (ok_placed T) (hr.mono (by decide)) (by rfl) T.g_placed (kp_of T.d_placed) (pa_cons (pe_ix ix_tup (pv 0) pe_int (fun _ _ => rfl)) (pa_cons (pv 1) pa_nil))) (pa_cons (pv 2) pa_nil)))) (pa_cons pe_bl pa_nil))))) (pm_cons ppat_str (pss_one (ps_ret (pe_tup (pa_cons (pe_op op_mod (pe_op op_sub (pv 2) (pe_ix ix_tup (pv 0) pe_int (fun _ _ => rfl))) (pv 1)) (pa_cons pe_bl pa_nil))))) (pm_cons ppat_str (pss_cons (ps_asg (pe_slice sl_tup (pv 0) (po_some pe_int) po_none) (pg_tup (by rfl) (pgs_cons (pg_name (i := 4) sc_moved.nd rfl (Or.inl rfl)) (pgs_cons (pg_name (i := 5) sc_moved.nd rfl (Or.inl rfl)) pgs_nil)))) (pss_cons (ps_set (i := 6) sc_moved.nd rfl (Or.inl rfl) (pe_ifExp (pt_cmpR op_eq (pv 4) pe_str (nomark _)) (pv 2) (pe_op op_sub (pe_op op_sub (pv 1) pe_int) (pv 2)))) (pss_one (ps_ret (pe_ifExp (pt_cmpR op_lt (pv 6) (pv 5) (nomark _)) (pe_tup (pa_cons (c_call (ok_placed T) (hr.mono (by decide)) (by rfl) T.g_placed (kp_of T.d_placed) (pa_cons (pe_tup (pa_cons (pv 4) (pa_cons (pe_op op_sub (pe_op op_sub (pv 5) pe_int) (pv 6)) pa_nil))) (pa_cons (pv 1) pa_nil))) (pa_cons pe_bl pa_nil))) (pe_tup (pa_cons (pv 2) (pa_cons pe_bl pa_nil)))))))) (pm_cons ppat_str (pss_one (ps_ret (pe_tup (pa_cons (pv 2) (pa_cons (pe_cmpR op_eq (pv 2) (c_call (ok_placed T) (hr.mono (by decide)) (by rfl) T.g_placed (kp_of T.d_placed) (pa_cons (pe_ix ix_tup (pv 0) pe_int (fun _ _ => rfl)) (pa_cons (pv 1) pa_nil))) (nomark _)) pa_nil))))) pm_nil)))))) (pss_one (ps_ret (pe_tup (pa_cons (pe_op op_sub (pe_op op_sub (pv 1) pe_int) (pv 2)) (pa_cons pe_bl pa_nil))))))), ?_⟩
    refine ⟨_, rfl, _, m, rfl, hm, _, rfl, _, _, rfl, rfl, _, rfl, ?_⟩
    unfold movedF at k
    by_cases hd : m.depth > n
    · rw [decide_eq_true hd]
      rw [if_pos hd] at k
      refine iteT ⟨_, rfl, (by show 2 ≤ sizeLine; decide), fun q hq => k _ _ (Ex.new hq) ⟨q, rfl, upd_same⟩⟩
    rw [decide_eq_false hd]
    rw [if_neg hd] at k
    refine iteF ?_
    cases m with
    | swap a b =>
      obtain ⟨q, x, y, rfl, hq, ha, hb⟩ := hm
      refine ⟨_, rfl, q, _, 0, _, rfl, rfl, SqT.of hq, atI_nat (j := 0) rfl, mHit (by decide +kernel) ?_⟩
      refine ⟨_, rfl, q, _, 1, _, rfl, rfl, SqT.of hq, atI_nat (j := 1) rfl, _, rfl, _, a, n, rfl, ha, _, rfl, q, _, 2, _, rfl, rfl, SqT.of hq, atI_nat (j := 2) rfl, _, rfl, _, b, n, rfl, hb, (by show 2 ≤ sizeLine; decide), fun p1 n1 => ?_⟩
      generalize hh1 : upd _ p1 _ = H1; obtain ⟨e1, t1⟩ := upd_facts n1 hh1; clear hh1
      refine ⟨_, rfl, _, rfl, p1, _, rfl, .inl (SqL.of t1), rfl, rfl, _, rfl, ?_⟩
      have e0 : inV (V.int p) [V.int (placedF a n), V.int (placedF b n)] = (decide (p = placedF a n) || decide (p = placedF b n)) := by
        show (eqV (V.int (placedF a n)) (V.int p) || (eqV (V.int (placedF b n)) (V.int p) || false)) = _
        rw [eqV_int, eqV_int, Bool.or_false, dec_comm (placedF a n), dec_comm (placedF b n)]
      show if (inV (V.int p) [V.int (placedF a n), V.int (placedF b n)]) = true then _ else _
      rw [e0]
      by_cases c1 : p = placedF a n
      · rw [decide_eq_true c1]
        refine iteT ⟨_, rfl, _, rfl, .inl ⟨rfl, _, SqL.of t1⟩, _, rfl, p1, _, _, 0, _, rfl, rfl, SqL.of t1, rfl, rfl, rfl, ?_, fun m z hm => absurd hm (Nat.not_lt_zero m), _, _, rfl, rfl, p1, _, 1, _, rfl, rfl, SqL.of t1, atI_nat (j := 1) rfl, (by show 2 ≤ sizeLine; decide), fun p2 n2 => ?_⟩
        · rw [eqV_int, c1, decide_eq_true rfl]
        · refine k _ _ (e1.trans (Ex.new n2)) ⟨p2, rfl, ?_⟩
          rw [upd_same]
          show _ = some (HO.tup [V.int (coreF (Mv.swap a b) n p).1, V.bl (coreF (Mv.swap a b) n p).2])
          simp only [coreF, if_pos c1]
      · rw [decide_eq_false c1]
        by_cases c2 : p = placedF b n
        · rw [decide_eq_true c2]
          refine iteT ⟨_, rfl, _, rfl, .inl ⟨rfl, _, SqL.of t1⟩, _, rfl, p1, _, _, 1, _, rfl, rfl, SqL.of t1, rfl, rfl, rfl, ?_, fun m z hm hz => ?_, _, _, rfl, rfl, p1, _, 0, _, rfl, rfl, SqL.of t1, atI_nat (j := 0) rfl, (by show 2 ≤ sizeLine; decide), fun p2 n2 => ?_⟩
          · rw [eqV_int, c2, decide_eq_true rfl]
          · have : m = 0 := by omega
            subst this
            cases hz
            rw [eqV_int]
            exact decide_eq_false fun e => c1 e.symm
          · refine k _ _ (e1.trans (Ex.new n2)) ⟨p2, rfl, ?_⟩
            rw [upd_same]
            show _ = some (HO.tup [V.int (coreF (Mv.swap a b) n p).1, V.bl (coreF (Mv.swap a b) n p).2])
            simp only [coreF, if_neg c1, if_pos c2]
        · rw [decide_eq_false c2]
          refine iteF ⟨_, rfl, (by show 2 ≤ sizeLine; decide), fun p2 n2 => ?_⟩
          refine k _ _ (e1.trans (Ex.new n2)) ⟨p2, rfl, ?_⟩
          rw [upd_same]
          show _ = some (HO.tup [V.int (coreF (Mv.swap a b) n p).1, V.bl (coreF (Mv.swap a b) n p).2])
          simp only [coreF, if_neg c1, if_neg c2]
    | carry a b =>
      obtain ⟨q, x, y, rfl, hq, ha, hb⟩ := hm
      refine ⟨_, rfl, q, _, 0, _, rfl, rfl, SqT.of hq, atI_nat (j := 0) rfl, mMiss (by decide +kernel) (mHit (by decide +kernel) ?_)⟩
      refine ⟨_, rfl, q, _, 1, _, rfl, rfl, SqT.of hq, atI_nat (j := 1) rfl, _, rfl, _, a, n, rfl, ha, _, rfl, q, _, 2, _, rfl, rfl, SqT.of hq, atI_nat (j := 2) rfl, _, rfl, _, b, n, rfl, hb, _, rfl, _, _, _, rfl, (by show 2 ≤ sizeLine; decide), fun p1 n1 => ?_⟩
      exact k _ _ (Ex.new n1) ⟨p1, rfl, upd_same⟩
    | cut i =>
      obtain ⟨q, rfl, hq⟩ := hm
      refine ⟨_, rfl, q, _, 0, _, rfl, rfl, SqT.of hq, atI_nat (j := 0) rfl, mMiss (by decide +kernel) (mMiss (by decide +kernel) (mHit (by decide +kernel) ?_))⟩
      refine ⟨_, rfl, _, rfl, q, _, 1, _, rfl, rfl, SqT.of hq, atI_nat (j := 1) rfl, _, _, rfl, rfl, _, rfl, _, _, rfl, rfl, hn, (by show 2 ≤ sizeLine; decide), fun p1 n1 => ?_⟩
      exact k _ _ (Ex.new n1) ⟨p1, rfl, upd_same⟩
    | turn e i =>
      obtain ⟨q, rfl, hq⟩ := hm
      refine ⟨_, rfl, q, _, 0, _, rfl, rfl, SqT.of hq, atI_nat (j := 0) rfl, mMiss (by decide +kernel) (mMiss (by decide +kernel) (mMiss (by decide +kernel) (mHit (by decide +kernel) ?_)))⟩
      refine ⟨_, rfl, 1, rfl, q, _, rfl, SqT.of hq, not_cut1, fun p1 n1 => ?_⟩
      generalize hh1 : upd _ p1 _ = H1; obtain ⟨e1, t1⟩ := upd_facts n1 hh1; clear hh1
      rw [show cutV [V.str "turn", V.str (endS e), V.int i] (some 1) none = [V.str (endS e), V.int i] from rfl] at t1
      refine ⟨p1, _, rfl, SqT.of t1, rfl, _, _, rfl, _, _, rfl, rfl, ?_⟩
      have fin : ∀ d : Int, d = (if e = true then p else n - 1 - p) → tRet (tIf (tTest (tOp (rI0 fun i j => V.bl (decide (i < j))) (tVar 6) (tVar 5)))
          (tTup (tCons (tCl sp_placed (tCons (tTup (tCons (tVar 4) (tCons (tOp (rI0 fun i j => V.int (i - j)) (tOp (rI0 fun i j => V.int (i - j)) (tVar 5) (tC (V.int 1))) (tVar 6)) tNil))) (tCons (tVar 1) tNil))) (tCons (tC (V.bl true)) tNil)))
          (tTup (tCons (tVar 2) (tCons (tC (V.bl false)) tNil)))) { nx := fun _ H' => Q .non H', rt := Q } [some (V.ref q), some (V.int n), some (V.int p), none, some (V.str (endS e)), some (V.int i), some (V.int d)] H1 := by
        intro d ed
        simp only [coreF] at k
        rw [← ed] at k
        refine ⟨_, rfl, _, rfl, _, _, rfl, rfl, _, rfl, ?_⟩
        by_cases c : d < i
        · rw [decide_eq_true c]
          rw [if_pos c] at k
          refine iteT ⟨_, rfl, _, rfl, _, _, rfl, rfl, _, rfl, _, _, rfl, rfl, (by show 2 ≤ sizeLine; decide), fun p2 n2 => ?_⟩
          generalize hh2 : upd _ p2 _ = H2; obtain ⟨e2, t2⟩ := upd_facts n2 hh2; clear hh2
          refine ⟨_, rfl, _, (e, i - 1 - d), _, rfl, ⟨p2, rfl, t2⟩, (by show 2 ≤ sizeLine; decide), fun p3 n3 => ?_⟩
          exact k _ _ ((e1.trans e2).trans (Ex.new n3)) ⟨p3, rfl, upd_same⟩
        · rw [decide_eq_false c]
          rw [if_neg c] at k
          refine iteF ⟨_, rfl, (by show 2 ≤ sizeLine; decide), fun p3 n3 => ?_⟩
          exact k _ _ (e1.trans (Ex.new n3)) ⟨p3, rfl, upd_same⟩
      refine ⟨_, rfl, rfl, _, rfl, ?_⟩
      cases e with
      | true =>
        rw [decide_eq_true (show V.str (endS true) = V.str "top" from rfl)]
        exact iteT ⟨_, rfl, fin _ rfl⟩
      | false =>
        rw [decide_eq_false (show ¬ V.str (endS false) = V.str "top" by decide +kernel)]
        exact iteF ⟨_, rfl, _, _, rfl, rfl, _, rfl, _, _, rfl, rfl, fin _ rfl⟩
    | face a =>
      obtain ⟨q, x, rfl, hq, ha⟩ := hm
      refine ⟨_, rfl, q, _, 0, _, rfl, rfl, SqT.of hq, atI_nat (j := 0) rfl, mMiss (by decide +kernel) (mMiss (by decide +kernel) (mMiss (by decide +kernel) (mMiss (by decide +kernel) (mHit (by decide +kernel) ?_))))⟩
      refine ⟨_, rfl, _, rfl, _, rfl, q, _, 1, _, rfl, rfl, SqT.of hq, atI_nat (j := 1) rfl, _, rfl, _, a, n, rfl, ha, rfl, (by show 2 ≤ sizeLine; decide), fun p1 n1 => ?_⟩
      refine k _ _ (Ex.new n1) ⟨p1, rfl, ?_⟩
      rw [upd_same]
      show some (HO.tup [V.int p, V.bl (decide (V.int p = V.int (placedF a n)))]) = some (HO.tup [V.int p, V.bl (decide (p = placedF a n))])
      rw [dec_int]
    | over =>
      obtain ⟨q, rfl, hq⟩ := hm
      refine ⟨_, rfl, q, _, 0, _, rfl, rfl, SqT.of hq, atI_nat (j := 0) rfl, mMiss (by decide +kernel) (mMiss (by decide +kernel) (mMiss (by decide +kernel) (mMiss (by decide +kernel) (mMiss (by decide +kernel) ?_))))⟩
      refine ⟨_, rfl, _, _, rfl, rfl, _, rfl, _, _, rfl, rfl, (by show 2 ≤ sizeLine; decide), fun p1 n1 => ?_⟩
      exact k _ _ (Ex.new n1) ⟨p1, rfl, upd_same⟩
end
end Pp

set_option Elab.async false
set_option linter.all false
set_option maxRecDepth 100000
set_option maxHeartbeats 4000000
/-! words -/
namespace Pp
open PySem PySem.Spec PyProof.Rows L2
section
variable {P : Program} {w : World} {K : PySem.W.Frag} {mg : Str → Option Value} {base : Heap}
theorem ne_bl {a b : Bool} : (!decide (V.bl a = V.bl b)) = (a != b) := by
  cases a <;> cases b <;> simp
theorem mvs_get {H : Hp} {vs : List V} {ws : List Mv} (h : MvsAt H vs ws) {i : Nat} {v : V} (e : vs[i]? = some v) : ∃ m, ws[i]? = some m ∧ MvAt H v m := paired_get h e
def depthN (ws : List Mv) (i : Nat) : Int := (ws.map Mv.depth).getD i 0
theorem depthN_at {ws : List Mv} {i : Nat} {m : Mv} (h : ws[i]? = some m) : depthN ws i = m.depth := by
  unfold depthN
  rw [List.getD_eq_getElem?_getD, List.getElem?_map, h]
  rfl
theorem depthN_all (ws : List Mv) : (List.range ws.length).map (depthN ws) = ws.map Mv.depth := by
  have := range_getD (ws.map Mv.depth) 0
  rw [List.length_map] at this
  exact this
def sp_Word_init : Sp := fun vs H Q _ => ∃ x dx rest ws, vs = V.ref x :: rest ∧ H x = some (.ins (He.ga K "Word") dx []) ∧ MvsAt H rest ws ∧ (∀ m ∈ ws, m.ok) ∧ ws.length ≤ 40 ∧ reachF ws ≤ 60 ∧
  ∀ H' t, ExX x H H' → H' x = some (.ins (He.ga K "Word") dx [(("steps" : Str), V.ref t)]) → H' t = some (.tup rest) → Q .non H'
theorem ok_Word_init (T : Tx w K mg) : FnR P w K mg base CX0 4 (He.ma K (He.ga K "Word") "__init__") (sp_Word_init (K := K)) := by
  obtain ⟨fd, oc, od, dV, kV, doc, pm, an, cdv, ct, osl, e, lk, hcd, hdv, _⟩ := (T.d_Word_init).imp fun _ h => h.ex
  subst e
  rcases hdv with ⟨_, rfl⟩ | ⟨hne, _⟩
  case inr => exact absurd rfl hne
  refine (StX.fn_star (base := base) (CX := CX0) (ps := ["self"]) (pv := "moves") (sp := fun vs H Q _ => ∃ x dx q rest ws, vs = [V.ref x, V.ref q] ∧ H x = some (.ins (He.ga K "Word") dx []) ∧ H q = some (.tup rest) ∧ MvsAt H rest ws ∧ (∀ m ∈ ws, m.ok) ∧ ws.length ≤ 40 ∧ reachF ws ≤ 60 ∧
    ∀ H' t, ExX x H H' → H' x = some (.ins (He.ga K "Word") dx [(("steps" : Str), V.ref t)]) → H' t = some (.tup rest) → Q .non H') lk hcd sc_Word_init StX.cxUp_none (StX.bind_star1 (B := fun us => bindArgs (PySem.W.fnOf "__init__" "Word.__init__" (defArgs s_Word_init) (defBody s_Word_init) (defScope s_Word_init) .none kV doc pm an cdv ct) ⟨us, []⟩) (fun _ => rfl) (fun _ _ _ => rfl)) fun A outer s H vs Q E hr h => ?_).imp fun vs H Q E h => ?_
  · suffices z : ∃ t, PSs (cxOf CX0 P w K mg base n_Word_init "Word.__init__" (defScope s_Word_init) (He.ma K (He.ga K "Word") "__init__") cdv A outer s H E).nox (defBody s_Word_init) t ∧ t { nx := fun _ H' => Q .non H', rt := Q } (L2.start n_Word_init vs) H from let ⟨t, a, q⟩ := z; ⟨t, a.nox, q⟩
    refine ⟨_, (pss_cons (ps_for PassesOwn.never rfl (pi_enumT (by rfl) T.f_enumerate (pa_cons (pv 1) pa_nil)) (pg_tup (by rfl) (pgs_cons (pg_name (i := 2) sc_Word_init.nd rfl (Or.inl rfl)) (pgs_cons (pg_name (i := 3) sc_Word_init.nd rfl (Or.inl rfl)) pgs_nil))) (pss_one (ps_if (pt_not (pt_val (c_call (ok_is_move T) (hr.mono (by decide)) (by rfl) T.g_is_move (kp_of T.d_is_move) (pa_cons (pv 3) pa_nil)))) pss_never pss_nil))) (pss_cons (ps_if (pt_cmpR op_gt (pe_callB call_len_seq (by rfl) T.f_len (by decide +kernel) (pa_cons (pv 1) pa_nil)) (pe_con (pv 0) rfl) (nomark _)) pss_never pss_nil) (pss_cons (ps_if (pt_cmpR op_gt (pe_callB (cr_sum rfl) (by rfl) T.f_sum (by decide +kernel) (pa_cons (pe_lc (own := [("move", 3)]) (g := gName 3) (by rfl) sc_Word_init.nd (pi_tup (pv 1)) (blkOk_by (own := [("move", 3)]) (N := n_Word_init) (sc := defScope s_Word_init) (by decide +kernel)) (fun _ _ _ _ _ => (pg_name (i := 3) sc_Word_init.nd rfl (Or.inl rfl))) (fun _ _ _ _ _ => pts_nil) (fun _ _ _ _ _ => (c_call (ok_depth_of T) (hr.mono (by decide)) (by rfl) T.g_depth_of (kp_of T.d_depth_of) (pa_cons (pv 3) pa_nil)))) pa_nil)) (pe_con (pv 0) rfl) (nomark _)) pss_never pss_nil) (pss_one (ps_fld (pv 0) (pe_callTy call_tupR (by rfl) T.f_tuple (by decide +kernel) (pa_cons (pv 1) pa_nil)) rfl))))), ?_⟩
    obtain ⟨x, dx, q, rest, ws, rfl, hx, hq, hm, ok, hl, hrch, k⟩ := h
    have hlen := paired_len hm
    refine ⟨_, rfl, q, rest, rfl, SqT.of hq, for_it (walk_enumT (K := K) (a := q) (xs := rest)) (fun i σ H' => Ex H H' ∧ ∃ a b, σ = [some (V.ref x), some (V.ref q), a, b]) ⟨Ex.refl _, _, _, rfl⟩ (fun i σ H' _ h => SqT.of (h.1 _ _ hq)) (fun i y σ H3 H4 hi hP hy => ?_) (fun σ H3 hP => ?_)⟩
    · obtain ⟨e3, a, b, rfl⟩ := hP
      obtain ⟨tp, u, v, rfl, nt, rfl, hu, hv⟩ := hy
      obtain ⟨m, hm1, hm2⟩ := mvs_get hm hv
      have e4 := e3.trans (Ex.new nt (o := .tup [u, v]))
      refine ⟨tp, _, rfl, SqT.of upd_same, rfl, _, _, rfl, _, _, rfl, rfl, ?_⟩
      refine ⟨_, rfl, _, m, rfl, hm2.mono e4.n, ok m (List.mem_of_getElem? hm1), fun H5 e5 => ⟨_, rfl, ?_⟩⟩
      exact iteF ⟨e4.trans e5, _, _, rfl⟩
    · obtain ⟨e3, a, b, rfl⟩ := hP
      refine ⟨_, rfl, q, _, rfl, .inr (SqT.of (e3 _ _ hq)), _, rfl, ?_⟩
      obtain ⟨uM, cM⟩ := He.conB_ok (T.co_Word_MOST_MOVES)
      obtain ⟨uR, cR⟩ := He.conB_ok (T.co_Word_MOST_REACH)
      refine ⟨x, _, dx, _, _, uM, rfl, e3 _ _ hx, T.cl_Word, cM, lk_nil, _, _, rfl, rfl, _, rfl, ?_⟩
      rw [decide_eq_false (show ¬ (40 : Int) < (rest.length : Nat) by omega)]
      refine iteF ?_
      refine ⟨_, rfl, q, rfl, ⟨rest, SqT.of (e3 _ _ hq)⟩, fun D hD => lcR (walk_tup (K := K) (a := q) (xs := rest)) hD (by omega) (fun _ v x => v = V.int x) (depthN ws) (fun _ _ _ _ _ h => h) (fun H' e => SqT.of (e _ _ (e3 _ _ hq))) (fun i y H4 H5 kk hi e4 yy kq => ?_) (fun acc H4 e4 ha hacc => ?_)⟩
      · obtain ⟨rfl, hy⟩ := yy
        obtain ⟨m, hm1, hm2⟩ := mvs_get hm hy
        refine ⟨rfl, _, rfl, _, m, rfl, hm2.mono (e3.trans e4).n, kq _ _ (Ex.refl _) ?_⟩
        rw [depthN_at hm1]
      · have e := paired_eq hacc
        rw [hlen, depthN_all] at e
        subst e
        have e5 := e3.trans e4
        refine ⟨D, _, rfl, SqL.of ha, _, rfl, x, _, dx, _, _, uR, rfl, e5 _ _ hx, T.cl_Word, cR, lk_nil, _, _, rfl, rfl, _, rfl, ?_⟩
        rw [decide_eq_false (show ¬ (60 : Int) < (ws.map Mv.depth).sum by unfold reachF at hrch; omega)]
        refine iteF ⟨_, rfl, q, rest, rfl, .inr ⟨SqT.of (e5 _ _ hq), ?_⟩⟩
        refine ⟨_, rfl, x, _, dx, _, rfl, e5 _ _ hx, T.cl_Word, T.no_Word_steps, (by show 0 < 1000; decide), ?_⟩
        refine k _ q (e5.x.trans ExX.put) upd_same ?_
        rw [upd_ne ?_]
        · exact e5 _ _ hq
        · intro z
          subst z
          rw [hx] at hq
          cases hq
  · obtain ⟨x, dx, rest, ws, rfl, hx, hm, ok, hl, hrch, k⟩ := h
    have hlen := paired_len hm
    refine ⟨[V.ref x], rest, rfl, rfl, sz4 (by omega), fun q hq => ?_⟩
    have en := (Ex.new hq (o := .tup rest))
    exact ⟨x, dx, q, rest, ws, rfl, en _ _ hx, upd_same, hm.mono en.n, ok, hl, hrch, fun H' t e h1 h2 => k H' t (en.x.trans e) h1 h2⟩
theorem word_made {H : Hp} {Q : Addr → Hp → Prop} {E : XK} {xs : List V} {ws : List Mv} (hm : MvsAt H xs ws) (ok : ∀ m ∈ ws, m.ok) (hl : ws.length ≤ 40) (hr : reachF ws ≤ 60) (k : ∀ q H', Ex H H' → WdAt K H' (.ref q) ws → Q q H') (x dx : Addr) (hx : H x = none) (hd : H dx = none) (hn : dx ≠ x) :
    sp_Word_init (K := K) (V.ref x :: xs) (upd (upd H dx (.own x)) x (.ins (He.ga K "Word") dx [])) (fun v H2 => v = .non ∧ Q x H2) E := by
  have e : Ex H (upd (upd H dx (.own x)) x (.ins (He.ga K "Word") dx [])) := (Ex.new hd).trans (Ex.new (by rw [upd_ne (Ne.symm hn)]; exact hx))
  refine ⟨x, dx, xs, ws, rfl, upd_same, hm.mono e.n, ok, hl, hr, fun H' t e2 h1 h2 => ⟨rfl, ?_⟩⟩
  have e3 := e.thenX hx e2
  exact k x H' e3 ⟨x, dx, t, xs, rfl, h1, h2, hm.mono e3.n⟩
def sp_Word_reach : Sp := fun vs H Q _ => ∃ v ws, vs = [v] ∧ WdAt K H v ws ∧ ws.length ≤ 40 ∧ ∀ H', Ex H H' → Q (.int (reachF ws)) H'
theorem ok_Word_reach (T : Tx w K mg) : FnR P w K mg base CX0 2 (He5.wf K (He.ga K "Word") "property" "reach") (sp_Word_reach (K := K)) := by
  refine mkR T.d_Word_reach sc_Word_reach (fun _ _ _ _ _ _ us hl => match us, hl with | [_], _ => rfl) (fun vs H Q E h => ?_) (fun cdv A outer s H vs Q E hr h => ?_)
  · obtain ⟨v, ws, rfl, _⟩ := h
    rfl
  · obtain ⟨v, ws, rfl, ⟨p, dx, t, xs, rfl, hp, ht, hm⟩, hl, k⟩ := h
    have hlen := paired_len hm
    refine ⟨_, (pss_one (ps_ret (pe_callB (cr_sum rfl) (by rfl) T.f_sum (by decide +kernel) (pa_cons (pe_lc (own := [("move", 1)]) (g := gName 1) (by rfl) sc_Word_reach.nd (pi_tup (pe_fld (pv 0) rfl)) (blkOk_by (own := [("move", 1)]) (N := n_Word_reach) (sc := defScope s_Word_reach) (by decide +kernel)) (fun _ _ _ _ _ => (pg_name (i := 1) sc_Word_reach.nd rfl (Or.inl rfl))) (fun _ _ _ _ _ => pts_nil) (fun _ _ _ _ _ => (c_call (ok_depth_of T) (hr.mono (by decide)) (by rfl) T.g_depth_of (kp_of T.d_depth_of) (pa_cons (pv 1) pa_nil)))) pa_nil)))), ?_⟩
    refine ⟨_, rfl, p, _, dx, _, _, rfl, hp, T.cl_Word, T.no_Word_steps, wd_steps, t, rfl, ⟨xs, SqT.of ht⟩, fun D hD => lcR (walk_tup (K := K) (a := t) (xs := xs)) hD (by omega) (fun _ v x => v = V.int x) (depthN ws) (fun _ _ _ _ _ h => h) (fun H' e => SqT.of (e _ _ ht)) (fun i x H3 H4 kk hi e3 y kq => ?_) (fun acc H3 e3 ha hacc => ?_)⟩
    · obtain ⟨rfl, hy⟩ := y
      obtain ⟨m, hm1, hm2⟩ := mvs_get hm hy
      refine ⟨rfl, _, rfl, _, m, rfl, hm2.mono e3.n, kq _ _ (Ex.refl _) ?_⟩
      rw [depthN_at hm1]
    · have e := paired_eq hacc
      rw [hlen, depthN_all] at e
      subst e
      exact ⟨D, _, rfl, SqL.of ha, k _ e3⟩

def sp_Word_moves : Sp := fun vs H Q _ => ∃ v ws, vs = [v] ∧ WdAt K H v ws ∧ ∀ H' q xs, Ex H H' → H' q = some (.lst xs) → MvsAt H' xs ws → Q (.ref q) H'
theorem ok_Word_moves (T : Tx w K mg) : FnR P w K mg base CX0 1 (He.ma K (He.ga K "Word") "moves") (sp_Word_moves (K := K)) := by
  refine mkR T.d_Word_moves sc_Word_moves (fun _ _ _ _ _ _ us hl => match us, hl with | [_], _ => rfl) (fun vs H Q E h => ?_) (fun cdv A outer s H vs Q E hr h => ?_)
  · obtain ⟨v, ws, rfl, _⟩ := h
    rfl
  · obtain ⟨v, ws, rfl, ⟨p, dx, t, xs, rfl, hp, ht, hm⟩, k⟩ := h
    refine ⟨_, (pss_one (ps_ret (pe_callTy call_list_of (by rfl) T.f_list (by decide +kernel) (pa_cons (pe_fld (pv 0) rfl) pa_nil)))), ?_⟩
    refine ⟨_, rfl, p, _, dx, _, _, rfl, hp, T.cl_Word, T.no_Word_steps, wd_steps, t, xs, rfl, .inr (SqT.of ht), fun q hq => ?_⟩
    have e := Ex.new hq (o := .lst xs)
    exact k _ q xs e upd_same (hm.mono e.n)
def sp_Word_sent : Sp := fun vs H Q _ => ∃ v ws n p, vs = [v, .int n, .int p] ∧ WdAt K H v ws ∧ 0 < n ∧ ∀ v' H', Ex H H' → PairAt H' v' (sentW ws n p) → Q v' H'
theorem ok_Word_sent (T : Tx w K mg) : FnR P w K mg base CX0 3 (He.ma K (He.ga K "Word") "sent") (sp_Word_sent (K := K)) := by
  refine mkR T.d_Word_sent sc_Word_sent (fun _ _ _ _ _ _ us hl => match us, hl with | [_, _, _], _ => rfl) (fun vs H Q E h => ?_) (fun cdv A outer s H vs Q E hr h => ?_)
  · obtain ⟨v, ws, n, p, rfl, _⟩ := h
    rfl
  · obtain ⟨v, ws, n, pl, rfl, ⟨p, dx, t, xs, rfl, hp, ht, hm⟩, hn, k⟩ := h
    have hlen := paired_len hm
    refine ⟨_, (pss_cons (ps_set (i := 3) sc_Word_sent.nd rfl (Or.inl rfl) pe_bl) (pss_cons (ps_for PassesOwn.never rfl (pi_tup (pe_fld (pv 0) rfl)) (pg_name (i := 4) sc_Word_sent.nd rfl (Or.inl rfl)) (pss_cons (ps_asg (c_call (ok_moved T) (hr.mono (by decide)) (by rfl) T.g_moved (kp_of T.d_moved) (pa_cons (pv 4) (pa_cons (pv 1) (pa_cons (pv 2) pa_nil)))) (pg_tup (by rfl) (pgs_cons (pg_name (i := 2) sc_Word_sent.nd rfl (Or.inl rfl)) (pgs_cons (pg_name (i := 5) sc_Word_sent.nd rfl (Or.inl rfl)) pgs_nil)))) (pss_one (ps_set (i := 3) sc_Word_sent.nd rfl (Or.inl rfl) (pe_cmpR op_ne (pv 3) (pv 5) (nomark _)))))) (pss_one (ps_ret (pe_tup (pa_cons (pv 2) (pa_cons (pv 3) pa_nil))))))), ?_⟩
    refine ⟨_, rfl, p, _, dx, _, _, rfl, hp, T.cl_Word, T.no_Word_steps, wd_steps, t, rfl, ⟨xs, SqT.of ht⟩, for_it (walk_tup (K := K) (a := t) (xs := xs)) (fun i σ H' => Ex H H' ∧ ∃ (q : Int) (b : Bool) (mv ch : Option V), σ = [some (V.ref p), some (.int n), some (.int q), some (.bl b), mv, ch] ∧ sentL n (ws.drop i) (q, b) = sentW ws n pl) ⟨Ex.refl _, _, _, _, _, rfl, rfl⟩ (fun i σ H' _ h => SqT.of (h.1 _ _ ht)) (fun i y σ H3 H4 hi hP hy => ?_) (fun σ H3 hP => ?_)⟩
    · obtain ⟨e3, q, b, mv, ch, rfl, hs⟩ := hP
      obtain ⟨rfl, hy⟩ := hy
      obtain ⟨m, hm1, hm2⟩ := mvs_get hm hy
      refine ⟨_, rfl, _, rfl, _, rfl, _, m, n, q, rfl, hm2.mono e3.n, hn, fun v' H5 e5 hv => ?_⟩
      obtain ⟨r, rfl, hr⟩ := hv
      refine ⟨r, _, rfl, SqT.of hr, rfl, _, _, rfl, _, _, rfl, rfl, ?_⟩
      refine ⟨_, rfl, _, rfl, rfl, ?_⟩
      refine ⟨e3.trans e5, _, _, _, _, rfl, ?_⟩
      rw [← hs]
      have hlt : i < ws.length := by omega
      have hw : ws[i] = m := by
        rw [List.getElem?_eq_getElem hlt] at hm1
        exact Option.some.inj hm1
      rw [List.drop_eq_getElem_cons hlt, hw]
      show sentL n _ (_, _) = sentL n _ ((movedF m n q).1, b != (movedF m n q).2)
      rw [ne_bl]
    · obtain ⟨e3, q, b, mv, ch, rfl, hs⟩ := hP
      rw [hlen, List.drop_length] at hs
      refine ⟨_, rfl, _, rfl, (by show 2 ≤ sizeLine; decide), fun p2 n2 => k _ _ (e3.trans (Ex.new n2)) ⟨p2, rfl, ?_⟩⟩
      rw [upd_same, ← hs] <;> rfl

theorem PairAt.n {H H' : Hp} (e : En H H') {v : V} {x : Int × Bool} (h : PairAt H v x) : PairAt H' v x := let ⟨p, h1, h2⟩ := h; ⟨p, h1, e _ _ h2 rfl⟩
def sp_Word_play : Sp := fun vs H Q _ => ∃ v ws n, vs = [v, .int n] ∧ WdAt K H v ws ∧ 0 ≤ n ∧ n ≤ 1000 ∧ ∀ q xs H', Ex H H' → H' q = some (.lst xs) → Paired (PairAt H') xs ((List.range n.toNat).map fun (i : Nat) => sentW ws n (i : Int)) → Q (.ref q) H'
theorem ok_Word_play (T : Tx w K mg) : FnR P w K mg base CX0 4 (He.ma K (He.ga K "Word") "play") (sp_Word_play (K := K)) := by
  refine mkR T.d_Word_play sc_Word_play (fun _ _ _ _ _ _ us hl => match us, hl with | [_, _], _ => rfl) (fun vs H Q E h => ?_) (fun cdv A outer s H vs Q E hr h => ?_)
  · obtain ⟨v, ws, n, rfl, _⟩ := h
    rfl
  · obtain ⟨v, ws, n, rfl, hw, hn, hn2, k⟩ := h
    refine ⟨_, (pss_cons (ps_expr (c_call (ok_need_size T) (hr.mono (by decide)) (by rfl) T.g_need_size (kp_of T.d_need_size) (pa_cons (pv 1) pa_nil))) (pss_cons (ps_expr (c_call (ok_need_played T) (hr.mono (by decide)) (by rfl) T.g_need_played (kp_of T.d_need_played) (pa_cons (pv 1) pa_nil))) (pss_one (ps_ret (pe_lc (own := [("place", 2)]) (g := gName 2) (by rfl) sc_Word_play.nd (pi_range1 (by rfl) T.f_range (pa_cons (pv 1) pa_nil)) (blkOk_by (own := [("place", 2)]) (N := n_Word_play) (sc := defScope s_Word_play) (by decide +kernel)) (fun _ _ _ _ _ => (pg_name (i := 2) sc_Word_play.nd rfl (Or.inl rfl))) (fun _ _ _ _ _ => pts_nil) (fun _ _ _ _ _ => (c_meth (pv 0) T.cl_Word T.me_Word_sent (ok_Word_sent T) (hr.mono (by decide)) (pa_cons (pv 1) (pa_cons (pv 2) pa_nil))))))))), ?_⟩
    refine ⟨_, rfl, _, rfl, hn, by omega, _, rfl, _, rfl, hn2, ?_⟩
    refine ⟨_, rfl, _, rfl, by omega, by omega, fun D hD => lcR (walk_range (lo := 0) (n := n.toNat)) hD (by omega) PairAt (fun (i : Nat) => sentW ws n (i : Int)) (fun _ _ _ _ e h => h.n e) (fun _ _ => trivial) (fun i x H3 H4 kk hi e3 y kq => ?_) (fun acc H3 e3 ha hacc => k D acc H3 e3 ha hacc)⟩
    obtain ⟨rfl, rfl⟩ := y
    obtain ⟨p, dx, t, xs, rfl, hp, ht, hm⟩ := hw.mono e3.n
    refine ⟨rfl, _, rfl, p, dx, _, rfl, hp, wd_no (by decide +kernel), _, rfl, _, rfl, _, ws, n, _, rfl, ⟨p, dx, t, xs, rfl, hp, ht, hm⟩, by omega, fun v' H5 e5 hv => kq _ _ e5 ?_⟩
    rw [Int.zero_add] at hv
    exact hv
def sp_Word_add : Sp := fun vs H Q _ => ∃ v u ws us, vs = [v, u] ∧ WdAt K H v ws ∧ WdAt K H u us ∧ (∀ m ∈ ws ++ us, m.ok) ∧ (ws ++ us).length ≤ 40 ∧ reachF (ws ++ us) ≤ 60 ∧ ∀ q H', Ex H H' → WdAt K H' (.ref q) (ws ++ us) → Q (.ref q) H'
theorem ok_Word_add (T : Tx w K mg) : FnR P w K mg base CX0 6 (He.ma K (He.ga K "Word") "__add__") (sp_Word_add (K := K)) := by
  refine mkR T.d_Word_add sc_Word_add (fun _ _ _ _ _ _ us hl => match us, hl with | [_, _], _ => rfl) (fun vs H Q E h => ?_) (fun cdv A outer s H vs Q E hr h => ?_)
  · obtain ⟨v, u, ws, us, rfl, _⟩ := h
    rfl
  · obtain ⟨v, u, ws, us, rfl, ⟨p, dx, t, xs, rfl, hp, ht, hm⟩, ⟨p', dx', t', xs', rfl, hp', ht', hm'⟩, ok, hl, hrch, k⟩ := h
    have hlen := paired_len hm
    have hlen' := paired_len hm'
    rw [List.length_append] at hl
    refine ⟨_, (pss_cons (ps_set (i := 2) sc_Word_add.nd rfl (Or.inl rfl) (pe_op op_catA (pe_fld (pv 0) rfl) (pe_fld (pv 1) rfl))) (pss_one (ps_ret (pe_makeS1 T.mk_Word (ok_Word_init T) (hr.mono (by decide)) (by rfl) T.g_Word pass0 (pv 2))))), ?_⟩
    refine ⟨_, rfl, p, _, dx, _, _, rfl, hp, T.cl_Word, T.no_Word_steps, wd_steps, _, rfl, p', _, dx', _, _, rfl, hp', T.cl_Word, T.no_Word_steps, wd_steps, t, t', xs, xs', rfl, rfl, SqT.of ht, SqT.of ht', sz4 (by omega), ?_⟩
    have tail : ∀ (r : Addr) (H1 : Hp), Ex H H1 → SqT K H1 r (xs ++ xs') → tRet (tMakeS1 K (He.ga K "Word") (sp_Word_init (K := K)) E0 (tVar 2)) { nx := fun _ H' => Q .non H', rt := Q } [some (V.ref p), some (V.ref p'), some (V.ref r)] H1 := fun r H1 e1 hr1 =>
      ⟨_, rfl, r, _, rfl, .inl hr1, word_made (paired_app (hm.mono e1.n) (hm'.mono e1.n)) ok (by rw [List.length_append]; exact hl) hrch fun q H' e h => k q H' (e1.trans e) h⟩
    refine ⟨fun z => ?_, fun _ z => ?_, fun _ _ r hr1 => tail r _ (Ex.new hr1) (SqT.of upd_same)⟩
    · refine tail _ _ (Ex.refl _) ?_
      rw [z]
      exact SqT.of ht'
    · refine tail _ _ (Ex.refl _) ?_
      rw [z, List.append_nil]
      exact SqT.of ht
end
end Pp

set_option Elab.async false
set_option linter.all false
set_option maxRecDepth 100000
set_option maxHeartbeats 4000000
/-! tables of a form -/
namespace Pp
open PySem PySem.Spec PyProof.Rows L2
section
variable {P : Program} {w : World} {K : PySem.W.Frag} {mg : Str → Option Value} {base : Heap}
def sp_ruled : Sp := fun vs H Q _ => ∃ (t : Bool) (s : Int) (e : Bool) (d : Int), vs = [.bl t, .int s, .str (endS e), .int d] ∧ ∀ v H', Ex H H' → EntAt H' v (ruledF t s e d) → Q v H'
theorem ok_ruled (T : Tx w K mg) : FnR P w K mg base CX0 1 (He.ga K "ruled") (sp_ruled) := by
  refine mkR T.d_ruled sc_ruled (fun _ _ _ _ _ _ us hl => match us, hl with | [_, _, _, _], _ => rfl) (fun vs H Q E h => ?_) (fun cdv A outer s H vs Q E hr h => ?_)
  · obtain ⟨t, s, e, d, rfl, _⟩ := h
    rfl
  · obtain ⟨t, s, e, d, rfl, k⟩ := h
    refine ⟨_, (pss_cons (ps_if (pt_not (pt_val (pv 0))) (pss_one (ps_ret (pe_tup (pa_cons (pv 2) (pa_cons (pe_ifExp (pt_cmpR op_eq (pv 2) pe_str (nomark _)) (pe_op op_add (pv 3) (pv 1)) (pe_op op_sub (pv 3) (pv 1))) (pa_cons pe_bl pa_nil)))))) pss_nil) (pss_one (ps_ret (pe_ifExp (pt_cmpR op_eq (pv 2) pe_str (nomark _)) (pe_tup (pa_cons pe_str (pa_cons (pe_op op_sub (pv 3) (pv 1)) (pa_cons pe_bl pa_nil)))) (pe_tup (pa_cons pe_str (pa_cons (pe_op op_add (pv 3) (pv 1)) (pa_cons pe_bl pa_nil)))))))), ?_⟩
    cases t with
    | false =>
      refine ⟨_, rfl, _, rfl, iteT ?_⟩
      cases e with
      | true =>
        refine ⟨_, rfl, _, rfl, rfl, _, rfl, ?_⟩
        rw [decide_eq_true (show V.str (endS true) = V.str "top" from rfl)]
        exact iteT ⟨_, rfl, _, rfl, _, _, rfl, rfl, (by show 3 ≤ sizeLine; decide), fun p hp => k _ _ (Ex.new hp) ⟨p, rfl, upd_same⟩⟩
      | false =>
        refine ⟨_, rfl, _, rfl, rfl, _, rfl, ?_⟩
        rw [decide_eq_false (show ¬ V.str (endS false) = V.str "top" by decide +kernel)]
        exact iteF ⟨_, rfl, _, rfl, _, _, rfl, rfl, (by show 3 ≤ sizeLine; decide), fun p hp => k _ _ (Ex.new hp) ⟨p, rfl, upd_same⟩⟩
    | true =>
      refine ⟨_, rfl, _, rfl, iteF ?_⟩
      cases e with
      | true =>
        refine ⟨_, rfl, rfl, _, rfl, ?_⟩
        rw [decide_eq_true (show V.str (endS true) = V.str "top" from rfl)]
        exact iteT ⟨_, rfl, _, rfl, _, _, rfl, rfl, (by show 3 ≤ sizeLine; decide), fun p hp => k _ _ (Ex.new hp) ⟨p, rfl, upd_same⟩⟩
      | false =>
        refine ⟨_, rfl, rfl, _, rfl, ?_⟩
        rw [decide_eq_false (show ¬ V.str (endS false) = V.str "top" by decide +kernel)]
        exact iteF ⟨_, rfl, _, rfl, _, _, rfl, rfl, (by show 3 ≤ sizeLine; decide), fun p hp => k _ _ (Ex.new hp) ⟨p, rfl, upd_same⟩⟩
def entD (x : Ent) : PyData := .tuple [.str (endS x.e), .int x.d, .bool x.t]
theorem ent_dp {H : Hp} {v : V} {x : Ent} (h : EntAt H v x) : Dp K H v (entD x) := by
  obtain ⟨p, rfl, hp⟩ := h
  exact .tup (SqT.of hp) (.cons (.str _) (.cons (.int _) (.cons (.bl _) .nil)))
theorem endS_inj : ∀ {a b : Bool}, endS a = endS b → a = b
  | true, true, _ => rfl
  | false, false, _ => rfl
  | true, false, h => absurd h (by decide +kernel)
  | false, true, h => absurd h (by decide +kernel)
theorem entD_eqv {x y : Ent} : PyData.eqv (entD x) (entD y) = decide (x = y) := by
  obtain ⟨e, d, t⟩ := x
  obtain ⟨e', d', t'⟩ := y
  rw [Bool.eq_iff_iff]
  simp [entD, PyData.eqv, PyData.eqvAll]
  intro _ _
  exact ⟨endS_inj, fun h => by rw [h]⟩
theorem entD_shaped (x : Ent) : SeqAt.shaped (entD x) = true := by
  show ((entD x).canLay0 && decide ((entD x).depth ≤ 64)) = true
  simp [entD, PyData.canLay0, PyData.canLayAll0, PyData.depth, PyData.depthAll, endS_ok]
def sp_trimmed : Sp := fun vs H Q _ => ∃ (t : Bool) (s : Int) (e : Bool) (a : Addr) (xs : List V) (tab : List Ent), vs = [.bl t, .int s, .str (endS e), .ref a] ∧ H a = some (.lst xs) ∧ EntsAt H xs tab ∧ tab.length ≤ 1000 ∧ ∀ v H', Ex H H' → TbAt H' v (trimF t s e tab) → Q v H'
theorem trimN_le (t : Bool) (s : Int) (e : Bool) (tab : List Ent) : ∀ n, trimN t s e tab n ≤ n
  | 0 => Nat.le_refl 0
  | n + 1 => by
    show (if _ then _ else _) ≤ _
    split
    · exact Nat.le_succ_of_le (trimN_le t s e tab n)
    · exact Nat.le_refl _
theorem ok_trimmed (T : Tx w K mg) : FnR P w K mg base CX0 2 (He.ga K "trimmed") (sp_trimmed) := by
  refine mkR T.d_trimmed sc_trimmed (fun _ _ _ _ _ _ us hl => match us, hl with | [_, _, _, _], _ => rfl) (fun vs H Q E h => ?_) (fun cdv A outer s H vs Q E hr h => ?_)
  · obtain ⟨t, s, e, a, xs, tab, rfl, _⟩ := h
    rfl
  · obtain ⟨t, sh, e, a, xs, tab, rfl, ha, hx, hl, k⟩ := h
    have hlen := paired_len hx
    refine ⟨_, (pss_cons (ps_set (i := 4) sc_trimmed.nd rfl (Or.inl rfl) (pe_callB call_len_seq (by rfl) T.f_len (by decide +kernel) (pa_cons (pv 3) pa_nil))) (pss_cons (ps_while PassesOwn.never (PW.pt (pw_and (pt_cmpR op_gt (pv 4) pe_int (nomark _)) (pw_and1 (pt_cmpR (op_eqD hr.units) (pe_ix ix_list (pv 3) (pe_op op_sub (pv 4) pe_int) (fun _ _ => rfl)) (c_call (ok_ruled T) (hr.mono (by decide)) (by rfl) T.g_ruled (kp_of T.d_ruled) (pa_cons (pv 0) (pa_cons (pv 1) (pa_cons (pv 2) (pa_cons (pe_op op_sub (pv 4) pe_int) pa_nil))))) (nomark _))))) (pss_one (ps_set (i := 4) sc_trimmed.nd rfl (Or.inl rfl) (pe_op op_sub (pv 4) pe_int)))) (pss_one (ps_ret (pe_callTy call_tupR (by rfl) T.f_tuple (by decide +kernel) (pa_cons (pe_slice sl_list (pv 3) po_none (po_some (pv 4))) pa_nil)))))), ?_⟩
    refine ⟨_, rfl, a, xs, rfl, .inl (SqL.of ha), fun m σ H' => ∃ n : Nat, m = n ∧ Ex H H' ∧ n ≤ tab.length ∧ trimN t sh e tab n = trimN t sh e tab tab.length ∧ σ = [some (.bl t), some (.int sh), some (.str (endS e)), some (.ref a), some (.int (n : Nat))], ⟨_, _, rfl, Ex.refl _, Nat.le_refl _, rfl, by rw [hlen] <;> rfl⟩, ?_⟩
    rintro m σ H' ⟨n, rfl, ex, hn, ht, rfl⟩
    have stop : ∀ H1, Ex H H1 → trimN t sh e tab m = m → tRet (tCB (rTupO K) (tCons (tSl (rSlL K) (tVar 3) tNoPart (tPart (tVar 4))) tNil)) { nx := fun _ H' => Q .non H', rt := Q } [some (.bl t), some (.int sh), some (.str (endS e)), some (.ref a), some (.int (m : Nat))] H1 := by
      intro H1 e1 hm
      refine ⟨_, rfl, _, rfl, _, rfl, a, xs, rfl, SqL.of (e1 _ _ ha), fun p1 n1 => ?_⟩
      have ec : cutV xs none (some ((m : Nat) : Int)) = xs.take m := by
        unfold cutV
        rw [show HT.sIx xs.length xs.length (some ((m : Nat) : Int)) = min m xs.length from HT.sIx_nat _ _ m, HT.sIx_none]
        show (xs.take (min m xs.length - 0)) = _
        rw [Nat.min_eq_left (by omega), Nat.sub_zero]
      rw [ec]
      generalize hh1 : upd _ p1 _ = H1'; obtain ⟨e1', t1⟩ := upd_facts n1 hh1; clear hh1
      refine ⟨p1, _, rfl, .inl ⟨SqL.of t1, fun p2 n2 => ?_⟩⟩
      refine k _ _ ((e1.trans e1').trans (Ex.new n2)) ⟨p2, _, rfl, upd_same, ?_⟩
      rw [show trimF t sh e tab = tab.take m by unfold trimF; rw [← ht, hm]]
      exact EntsAt.mono ((e1.trans e1').trans (Ex.new n2)).n (paired_take m hx)
    refine ⟨_, rfl, _, _, rfl, rfl, _, rfl, ?_⟩
    cases m with
    | zero =>
      rw [decide_eq_false (show ¬ (0 : Int) < ((0 : Nat) : Int) by omega)]
      exact iteF (iteF (stop _ ex rfl))
    | succ n =>
      rw [decide_eq_true (show (0 : Int) < ((n + 1 : Nat) : Int) by omega)]
      obtain ⟨v, hv⟩ : ∃ v, xs[n]? = some v := ⟨xs[n], List.getElem?_eq_getElem (by omega)⟩
      obtain ⟨y, hy1, hy2⟩ := paired_get hx hv
      have en : ((n + 1 : Nat) : Int) - 1 = (n : Nat) := by omega
      refine iteT ⟨_, rfl, _, rfl, _, _, rfl, rfl, a, xs, _, v, rfl, rfl, SqL.of (ex _ _ ha), ?_, _, rfl, _, rfl, _, rfl, _, rfl, _, _, rfl, rfl, t, sh, e, _, rfl, fun u H1 e1 hu => ?_⟩
      · rw [en]
        exact atI_nat hv
      · rw [en] at hu
        refine ⟨entD y, _, ent_dp (hy2.mono (ex.trans e1).n), ent_dp hu, entD_shaped _, entD_shaped _, _, rfl, ?_⟩
        rw [entD_eqv]
        have step : trimN t sh e tab (n + 1) = if tab[n]? = some (ruledF t sh e (n : Nat)) then trimN t sh e tab n else n + 1 := rfl
        rw [hy1] at step
        by_cases c : y = ruledF t sh e (n : Nat)
        · rw [decide_eq_true c]
          rw [if_pos (by rw [c])] at step
          refine iteT ⟨_, fun _ _ z => z, _, rfl, _, _, rfl, rfl, ?_⟩
          exact ⟨n, Nat.lt_succ_self n, n, rfl, ex.trans e1, by omega, step.symm.trans ht, congrArg (fun i => [some (V.bl t), some (V.int sh), some (V.str (endS e)), some (V.ref a), some (V.int i)]) en⟩
        · rw [decide_eq_false c]
          rw [if_neg (by intro z; injection z with z; exact c z)] at step
          exact iteF (stop _ (ex.trans e1) step)

def sp_image_counts : Sp := fun vs H Q _ => ∃ (t : Bool) (s a b : Int), vs = [.bl t, .int s, .int a, .int b] ∧ ∀ p H', Ex H H' → H' p = some (.tup [.int (countsF t s a b).1, .int (countsF t s a b).2]) → Q (.ref p) H'
theorem ok_image_counts (T : Tx w K mg) : FnR P w K mg base CX0 1 (He.ga K "image_counts") (sp_image_counts) := by
  refine mkR T.d_image_counts sc_image_counts (fun _ _ _ _ _ _ us hl => match us, hl with | [_, _, _, _], _ => rfl) (fun vs H Q E h => ?_) (fun cdv A outer s H vs Q E hr h => ?_)
  · obtain ⟨t, s, a, b, rfl, _⟩ := h
    rfl
  · obtain ⟨t, s, a, b, rfl, k⟩ := h
    refine ⟨_, (pss_cons (ps_if (pt_val (pv 0)) (pss_one (ps_ret (pe_tup (pa_cons (pe_op op_add (pv 3) (pv 1)) (pa_cons (pe_op op_sub (pv 2) (pv 1)) pa_nil))))) pss_nil) (pss_one (ps_ret (pe_tup (pa_cons (pe_op op_add (pv 2) (pv 1)) (pa_cons (pe_op op_sub (pv 3) (pv 1)) pa_nil)))))), ?_⟩
    cases t with
    | false => exact ⟨_, rfl, _, rfl, iteF ⟨_, rfl, _, rfl, _, _, rfl, rfl, _, rfl, _, rfl, _, _, rfl, rfl, (by show 2 ≤ sizeLine; decide), fun p hp => k _ _ (Ex.new hp) upd_same⟩⟩
    | true => exact ⟨_, rfl, _, rfl, iteT ⟨_, rfl, _, rfl, _, _, rfl, rfl, _, rfl, _, rfl, _, _, rfl, rfl, (by show 2 ≤ sizeLine; decide), fun p hp => k _ _ (Ex.new hp) upd_same⟩⟩
def sp_end_entry : Sp := fun vs H Q _ => ∃ (v : V) (m : Mv) (n p : Int), vs = [v, .int n, .int p] ∧ MvAt H v m ∧ 0 < n ∧ ∀ v' H', Ex H H' → EntAt H' v' (endEntF m n p) → Q v' H'
theorem ok_end_entry (T : Tx w K mg) : FnR P w K mg base CX0 3 (He.ga K "end_entry") (sp_end_entry) := by
  refine mkR T.d_end_entry sc_end_entry (fun _ _ _ _ _ _ us hl => match us, hl with | [_, _, _], _ => rfl) (fun vs H Q E h => ?_) (fun cdv A outer s H vs Q E hr h => ?_)
  · obtain ⟨v, m, n, p, rfl, _⟩ := h
    rfl
  · obtain ⟨v, m, n, p, rfl, hm, hn, k⟩ := h
    unfold endEntF at k
    refine ⟨_, (pss_cons (ps_asg (c_call (ok_moved T) (hr.mono (by decide)) (by rfl) T.g_moved (kp_of T.d_moved) (pa_cons (pv 0) (pa_cons (pv 1) (pa_cons (pv 2) pa_nil)))) (pg_tup (by rfl) (pgs_cons (pg_name (i := 3) sc_end_entry.nd rfl (Or.inl rfl)) (pgs_cons (pg_name (i := 4) sc_end_entry.nd rfl (Or.inl rfl)) pgs_nil)))) (pss_cons (ps_if (pt_cmpR op_lt (pv 3) (pe_op op_fdivW (pv 1) pe_int) (nomark _)) (pss_one (ps_ret (pe_tup (pa_cons pe_str (pa_cons (pv 3) (pa_cons (pv 4) pa_nil)))))) pss_nil) (pss_one (ps_ret (pe_tup (pa_cons pe_str (pa_cons (pe_op op_sub (pe_op op_sub (pv 1) pe_int) (pv 3)) (pa_cons (pv 4) pa_nil)))))))), ?_⟩
    refine ⟨_, rfl, _, rfl, _, rfl, v, m, n, p, rfl, hm, hn, fun v' H1 e1 hv => ?_⟩
    obtain ⟨r, rfl, hr1⟩ := hv
    refine ⟨r, _, rfl, SqT.of hr1, rfl, _, _, rfl, _, _, rfl, rfl, ?_⟩
    refine ⟨_, rfl, _, rfl, _, _, rfl, rfl, cdivB (by decide) (by decide +kernel), _, _, rfl, rfl, _, rfl, ?_⟩
    by_cases c : (movedF m n p).1 < n / 2
    · rw [decide_eq_true c]
      rw [if_pos c] at k
      exact iteT ⟨_, rfl, _, rfl, (by show 3 ≤ sizeLine; decide), fun q hq => k _ _ (e1.trans (Ex.new hq)) ⟨q, rfl, upd_same⟩⟩
    · rw [decide_eq_false c]
      rw [if_neg c] at k
      exact iteF ⟨_, rfl, _, _, rfl, rfl, _, rfl, _, _, rfl, rfl, _, rfl, (by show 3 ≤ sizeLine; decide), fun q hq => k _ _ (e1.trans (Ex.new hq)) ⟨q, rfl, upd_same⟩⟩
def sp_move_parts : Sp := fun vs H Q _ => ∃ (v : V) (m : Mv), vs = [v] ∧ MvAt H v m ∧ 0 ≤ m.depth ∧ m.depth ≤ 100 ∧
  ∀ p a b xs ys H', Ex H H' → H' p = some (.tup [.bl (partsF m).turned, .int (partsF m).shift, .ref a, .ref b]) → H' a = some (.lst xs) → EntsAt H' xs (partsF m).top → H' b = some (.lst ys) → EntsAt H' ys (partsF m).bottom → Q (.ref p) H'
theorem cmulB2 {i j : Int} (hi : i.natAbs < 100000) (hj : j.natAbs < 100000) : CMulW i j := cmulB (Nat.lt_trans hi (by decide +kernel)) (Nat.lt_trans hj (by decide +kernel))
theorem ok_move_parts (T : Tx w K mg) : FnR P w K mg base CX0 4 (He.ga K "move_parts") (sp_move_parts) := by
  refine mkR T.d_move_parts sc_move_parts (fun _ _ _ _ _ _ us hl => match us, hl with | [_], _ => rfl) (fun vs H Q E h => ?_) (fun cdv A outer s H vs Q E hr h => ?_)
  · obtain ⟨v, m, rfl, _⟩ := h
    rfl
  · obtain ⟨v, m, rfl, hm, h0, h1, k⟩ := h
    refine ⟨_, (pss_cons (ps_set (i := 1) sc_move_parts.nd rfl (Or.inl rfl) (c_call (ok_depth_of T) (hr.mono (by decide)) (by rfl) T.g_depth_of (kp_of T.d_depth_of) (pa_cons (pv 0) pa_nil))) (pss_cons (ps_set (i := 2) sc_move_parts.nd rfl (Or.inr rfl) (pe_op op_add (pe_op op_mulW pe_int (pv 1)) pe_int)) (pss_cons (ps_asg (c_call (ok_moved T) (hr.mono (by decide)) (by rfl) T.g_moved (kp_of T.d_moved) (pa_cons (pv 0) (pa_cons (pv 2) (pa_cons (pe_op op_add (pe_op op_mulW pe_int (pv 1)) pe_int) pa_nil)))) (pg_tup (by rfl) (pgs_cons (pg_name (i := 3) sc_move_parts.nd rfl (Or.inl rfl)) (pgs_cons (pg_name (i := 4) sc_move_parts.nd rfl (Or.inl rfl)) pgs_nil)))) (pss_cons (ps_set (i := 5) sc_move_parts.nd rfl (Or.inl rfl) (pe_op op_sub (pv 3) (pe_op op_add (pe_op op_mulW pe_int (pv 1)) pe_int))) (pss_cons (ps_setLc (i := 6) (own := [("depth", 8)]) (g := gName 8) (by rfl) sc_move_parts.nd rfl rfl (sw_true rfl rfl rfl (by decide +kernel)) (pi_range1 (by rfl) T.f_range (pa_cons (pv 1) pa_nil)) (blkOk_by (own := [("depth", 8)]) (N := n_move_parts) (sc := defScope s_move_parts) (by decide +kernel)) (fun _ _ _ _ _ => (pg_name (i := 8) sc_move_parts.nd rfl (Or.inl rfl))) (fun _ _ _ _ _ => pts_nil) (fun _ _ _ _ _ => (c_call (ok_end_entry T) (hr.mono (by decide)) (by rfl) T.g_end_entry (kp_of T.d_end_entry) (pa_cons (pv 0) (pa_cons (pv 2) (pa_cons (pv 8) pa_nil)))))) (pss_cons (ps_setLc (i := 7) (own := [("depth", 8)]) (g := gName 8) (by rfl) sc_move_parts.nd rfl rfl (sw_true rfl rfl rfl (by decide +kernel)) (pi_range1 (by rfl) T.f_range (pa_cons (pv 1) pa_nil)) (blkOk_by (own := [("depth", 8)]) (N := n_move_parts) (sc := defScope s_move_parts) (by decide +kernel)) (fun _ _ _ _ _ => (pg_name (i := 8) sc_move_parts.nd rfl (Or.inl rfl))) (fun _ _ _ _ _ => pts_nil) (fun _ _ _ _ _ => (c_call (ok_end_entry T) (hr.mono (by decide)) (by rfl) T.g_end_entry (kp_of T.d_end_entry) (pa_cons (pv 0) (pa_cons (pv 2) (pa_cons (pe_op op_sub (pe_op op_sub (pv 2) pe_int) (pv 8)) pa_nil)))))) (pss_one (ps_ret (pe_tup (pa_cons (pv 4) (pa_cons (pv 5) (pa_cons (pv 6) (pa_cons (pv 7) pa_nil))))))))))))), ?_⟩
    refine ⟨_, rfl, v, m, rfl, hm, ?_⟩
    refine ⟨_, rfl, _, _, rfl, rfl, cmulB2 (by decide) (by omega), _, _, rfl, rfl, ?_⟩
    have hd1 : ((2 : Int) * m.depth + 1) = 2 * m.depth + 1 := rfl
    refine ⟨_, rfl, _, rfl, _, rfl, _, _, rfl, rfl, cmulB2 (by decide) (by omega), _, _, rfl, rfl, v, m, _, _, rfl, hm, (by show (0 : Int) < 4 * m.depth + 3; omega), fun v' H1 e1 hv => ?_⟩
    obtain ⟨r, rfl, hr1⟩ := hv
    refine ⟨r, _, rfl, SqT.of hr1, rfl, _, _, rfl, _, _, rfl, rfl, ?_⟩
    refine ⟨_, rfl, _, rfl, _, _, rfl, rfl, cmulB2 (by decide) (by omega), _, _, rfl, rfl, _, _, rfl, rfl, ?_⟩
    refine ⟨_, rfl, _, rfl, by omega, by omega, fun D hD => lcR (walk_range (lo := 0) (n := m.depth.toNat)) hD (by omega) EntAt (fun (i : Nat) => endEntF m (4 * m.depth + 3) (i : Int)) (fun _ _ _ _ e h => h.mono e) (fun _ _ => trivial) (fun i x H3 H4 kk hi e3 y kq => ?_) (fun acc H3 e3 ha hacc => ?_)⟩
    · obtain ⟨rfl, rfl⟩ := y
      refine ⟨rfl, _, rfl, _, rfl, _, rfl, v, m, _, _, rfl, hm.mono (e1.trans e3).n, (by show (0 : Int) < 4 * m.depth + 3; omega), fun v' H5 e5 hv => kq _ _ e5 ?_⟩
      rw [Int.zero_add] at hv
      exact hv
    · refine ⟨_, rfl, _, rfl, by omega, by omega, fun D2 hD2 => lcR (walk_range (lo := 0) (n := m.depth.toNat)) hD2 (by omega) EntAt (fun (i : Nat) => endEntF m (4 * m.depth + 3) (4 * m.depth + 3 - 1 - (i : Int))) (fun _ _ _ _ e h => h.mono e) (fun _ _ => trivial) (fun i x H4 H5 kk hi e4 y kq => ?_) (fun acc2 H4 e4 ha2 hacc2 => ?_)⟩
      · obtain ⟨rfl, rfl⟩ := y
        refine ⟨rfl, _, rfl, _, rfl, _, rfl, _, _, rfl, rfl, _, rfl, _, _, rfl, rfl, v, m, _, _, rfl, hm.mono ((e1.trans e3).trans e4).n, (by show (0 : Int) < 4 * m.depth + 3; omega), fun v' H6 e6 hv => kq _ _ e6 ?_⟩
        rw [Int.zero_add] at hv
        exact hv
      · refine ⟨_, rfl, _, rfl, _, rfl, _, rfl, (by show 4 ≤ sizeLine; decide), fun q hq => ?_⟩
        have e5 := e4.trans (Ex.new hq (o := .tup [.bl (partsF m).turned, .int (partsF m).shift, .ref D, .ref D2]))
        refine k q D D2 acc acc2 _ ((e1.trans e3).trans e5) upd_same (e5 _ _ ha) (EntsAt.mono e5.n hacc) (Ex.new hq _ _ ha2) (EntsAt.mono (Ex.new hq).n hacc2)

theorem ep_alike (a b : EP) : PySem.W.alike (epD a) (epD b) = true := by
  obtain ⟨e, d⟩ := a
  obtain ⟨e', d'⟩ := b
  simp [epD, PySem.W.alike, PySem.W.alikeAll]
theorem ep_lt (a b : EP) : PySem.W.dataLt (epD a) (epD b) = if a.1 = b.1 then decide (a.2 < b.2) else b.1 := by
  obtain ⟨e, d⟩ := a
  obtain ⟨e', d'⟩ := b
  have h1 : PySem.W.dataLt (.str "bottom") (.str "top") = true := by decide +kernel
  have h2 : PySem.W.dataLt (.str "top") (.str "bottom") = false := by decide +kernel
  have h3 : ¬ (("top" : Str) = "bottom") := by decide +kernel
  have h4 : ¬ (("bottom" : Str) = "top") := by decide +kernel
  show PySem.W.dataLt (.tuple [.str (endS e), .int d]) (.tuple [.str (endS e'), .int d']) = _
  rw [PySem.W.dataLt_pair (by simp [PySem.W.alike]) (by simp [PySem.W.alike]), PySem.W.dataLt_int]
  by_cases hd : d = d'
  · subst hd
    cases e <;> cases e' <;> simp [PyData.eqv, endS, h1, h2, h3, h4]
  · cases e <;> cases e' <;> simp [PyData.eqv, endS, h1, h2, h3, h4, hd]
theorem ep_anti {a b : EP} (h1 : PySem.W.dataLe false id (epD a) (epD b) = true) (h2 : PySem.W.dataLe false id (epD b) (epD a) = true) : a = b := by
  rw [PySem.W.dataLe_eq] at h1 h2
  have h1' : (!PySem.W.dataLt (epD b) (epD a)) = true := h1
  have h2' : (!PySem.W.dataLt (epD a) (epD b)) = true := h2
  rw [ep_lt] at h1' h2'
  obtain ⟨e, d⟩ := a
  obtain ⟨e', d'⟩ := b
  by_cases c : e = e'
  · subst c
    simp at h1' h2'
    have : d = d' := by omega
    rw [this]
  · have c' : ¬ e' = e := fun z => c z.symm
    simp only [c, c', if_false] at h1' h2'
    cases e <;> cases e' <;> simp at c h1' h2'
theorem sorted_same {l1 l2 : List EP} (p : l1.Perm l2) : (l1.map epD).mergeSort (PySem.W.dataLe false id) = (l2.map epD).mergeSort (PySem.W.dataLe false id) := by
  have tot : PySem.W.TotalLe (PySem.W.dataLe false (id : PyData → PyData)) := PySem.W.sortLe_total _ _ _
  refine List.Perm.eq_of_pairwise (le := fun a b => PySem.W.dataLe false id a b = true) (fun a b ha hb h1 h2 => ?_) (PySem.W.sort_pairwise tot _) (PySem.W.sort_pairwise tot _) ?_
  · obtain ⟨x, _, rfl⟩ := List.mem_map.mp (List.mem_mergeSort.mp ha)
    obtain ⟨y, _, rfl⟩ := List.mem_map.mp (List.mem_mergeSort.mp hb)
    rw [ep_anti h1 h2]
  · exact ((List.mergeSort_perm _ _).trans (p.map epD)).trans (List.mergeSort_perm _ _).symm
theorem eps_dp {H : Hp} : ∀ {vs : List V} {l : List EP}, Paired (EpAt H) vs l → DpAll K H vs (l.map epD)
  | _, _, .nil => .nil
  | _, _, .cons h t => .cons (ep_dp h) (eps_dp t)
theorem eps_ok : ∀ (l : List EP), PyData.canLayAll0 (l.map epD) = true
  | [] => rfl
  | a :: l => by
    rw [List.map_cons, PyData.canLayAll0, eps_ok l]
    simp [epD, PyData.canLay0, PyData.canLayAll0, endS_ok]
theorem eps_depth : ∀ (l : List EP), PyData.depthAll (l.map epD) ≤ 2
  | [] => by simp [PyData.depthAll]
  | a :: l => by
    have := eps_depth l
    rw [List.map_cons]
    simp [PyData.depthAll, epD, PyData.depth]
    omega
theorem eps_shaped (l : List EP) : SeqAt.shaped (.list (l.map epD)) = true := by
  show ((PyData.list (l.map epD)).canLay0 && decide ((PyData.list (l.map epD)).depth ≤ 64)) = true
  have h1 := eps_ok l
  have h2 := eps_depth l
  rw [PyData.canLay0, h1, Bool.true_and, decide_eq_true_eq, PyData.depth]
  omega
theorem eps_eqv (l : List EP) : PyData.eqv (.list (l.map epD)) (.list (l.map epD)) = true := by
  refine PySem.W.eqv_refl_alike _ ?_
  rw [PySem.W.alike]
  induction l with
  | nil => rfl
  | cons a l ih =>
    rw [List.map_cons, PySem.W.alikeAll, ih, ep_alike] <;> rfl
theorem sort_as_map (l : List EP) : ∃ m : List EP, (l.map epD).mergeSort (PySem.W.dataLe false id) = m.map epD := by
  refine ⟨l.mergeSort (PySem.W.dataLe false epD), ?_⟩
  exact (PySem.W.sort_maps epD fun a _ b _ => rfl).symm
theorem eps_alike (l : List EP) : PySem.W.AllAlike (l.map epD) := fun d hd d' hd' => by
  obtain ⟨x, _, rfl⟩ := List.mem_map.mp hd
  obtain ⟨y, _, rfl⟩ := List.mem_map.mp hd'
  exact ep_alike x y
theorem eps_sortable (l : List EP) : PySem.W.Sortable (l.map epD) := .inl fun d hd => by
  obtain ⟨x, _, rfl⟩ := List.mem_map.mp hd
  exact ⟨_, _, rfl⟩
theorem eps_deep (l : List EP) : ∀ d ∈ l.map epD, d.depth ≤ 60 := fun d hd => by
  obtain ⟨x, _, rfl⟩ := List.mem_map.mp hd
  simp [epD, PyData.depth, PyData.depthAll]
end
end Pp

set_option Elab.async false
set_option linter.all false
set_option maxRecDepth 100000
set_option maxHeartbeats 4000000
/-! forms: are_parts, __init__ -/
namespace Pp
open PySem PySem.Spec PyProof.Rows L2
section
variable {P : Program} {w : World} {K : PySem.W.Frag} {mg : Str → Option Value} {base : Heap}
def epOf (x : Ent) : EP := (x.e, x.d)
theorem EntAt.mk {H : Hp} {v : V} {x : Ent} (h : EntAt H v x) : ∃ p, v = .ref p ∧ H p = some (.tup [.str (endS x.e), .int x.d, .bl x.t]) := h
def sp_are_parts : Sp := fun vs H Q _ => ∃ (F : Fm) (a b : Addr) (xs ys : List V), vs = [.bl F.turned, .int F.shift, .ref a, .ref b] ∧ H a = some (.lst xs) ∧ H b = some (.lst ys) ∧ EntsAt H xs F.top ∧ EntsAt H ys F.bottom ∧ F.top.length ≤ 400 ∧ F.bottom.length ≤ 400 ∧ F.Parts ∧ ∀ H', Ex H H' → Q (.bl true) H'
theorem ok_are_parts (T : Tx w K mg) : FnR P w K mg base CX0 2 (He.ga K "are_parts") (sp_are_parts) := by
  refine mkR T.d_are_parts sc_are_parts (fun _ _ _ _ _ _ us hl => match us, hl with | [_, _, _, _], _ => rfl) (fun vs H Q E h => ?_) (fun cdv A outer s H vs Q E hr h => ?_)
  · obtain ⟨F, a, b, xs, ys, rfl, _⟩ := h
    rfl
  · obtain ⟨F, a, b, xs, ys, rfl, ha, hb, hx, hy, la, lb, hP, k⟩ := h
    have lx := paired_len hx
    have ly := paired_len hy
    have pl := hP.perm.length_eq
    have c1 := hP.above
    have c2 := hP.below
    refine ⟨_, (pss_cons (ps_asg (c_call (ok_image_counts T) (hr.mono (by decide)) (by rfl) T.g_image_counts (kp_of T.d_image_counts) (pa_cons (pv 0) (pa_cons (pv 1) (pa_cons (pe_callB call_len_seq (by rfl) T.f_len (by decide +kernel) (pa_cons (pv 2) pa_nil)) (pa_cons (pe_callB call_len_seq (by rfl) T.f_len (by decide +kernel) (pa_cons (pv 3) pa_nil)) pa_nil))))) (pg_tup (by rfl) (pgs_cons (pg_name (i := 4) sc_are_parts.nd rfl (Or.inl rfl)) (pgs_cons (pg_name (i := 5) sc_are_parts.nd rfl (Or.inl rfl)) pgs_nil)))) (pss_cons (ps_if (PW.pt (pw_or (pt_cmpR op_lt (pv 4) pe_int (nomark _)) (pw_or1 (pt_cmpR op_lt (pv 5) pe_int (nomark _))))) (pss_one (ps_ret pe_bl)) pss_nil) (pss_cons (ps_set (i := 6) sc_are_parts.nd rfl (Or.inl rfl) (pe_op op_cat (pe_lc (own := [("depth", 7)]) (g := gName 7) (by rfl) sc_are_parts.nd (pi_range1 (by rfl) T.f_range (pa_cons (pv 4) pa_nil)) (blkOk_by (own := [("depth", 7)]) (N := n_are_parts) (sc := defScope s_are_parts) (by decide +kernel)) (fun _ _ _ _ _ => (pg_name (i := 7) sc_are_parts.nd rfl (Or.inl rfl))) (fun _ _ _ _ _ => pts_nil) (fun _ _ _ _ _ => (pe_tup (pa_cons pe_str (pa_cons (pv 7) pa_nil))))) (pe_lc (own := [("depth", 7)]) (g := gName 7) (by rfl) sc_are_parts.nd (pi_range1 (by rfl) T.f_range (pa_cons (pv 5) pa_nil)) (blkOk_by (own := [("depth", 7)]) (N := n_are_parts) (sc := defScope s_are_parts) (by decide +kernel)) (fun _ _ _ _ _ => (pg_name (i := 7) sc_are_parts.nd rfl (Or.inl rfl))) (fun _ _ _ _ _ => pts_nil) (fun _ _ _ _ _ => (pe_tup (pa_cons pe_str (pa_cons (pv 7) pa_nil))))))) (pss_one (ps_ret (pe_cmpR (op_eqD hr.units) (pe_callB (cr_sortedD hr.units) (by rfl) T.f_sorted (by decide +kernel) (pa_cons (pe_lc (own := [("entry", 8)]) (g := gName 8) (te := tTup (tCons (tOp (rIxT K) (tVar 8) (tC (.int 0))) (tCons (tOp (rIxT K) (tVar 8) (tC (.int 1))) tNil))) (by rfl) sc_are_parts.nd (pi_list (pe_op op_cat (pv 2) (pv 3))) (blkOk_by (own := [("entry", 8)]) (N := n_are_parts) (sc := defScope s_are_parts) (by decide +kernel)) (fun _ _ _ _ _ => (pg_name (i := 8) sc_are_parts.nd rfl (Or.inl rfl))) (fun _ _ _ _ _ => pts_nil) (fun _ _ _ _ _ => (pe_tup (pa_cons (pe_ix ix_tup (pv 8) pe_int (fun _ _ => rfl)) (pa_cons (pe_ix ix_tup (pv 8) pe_int (fun _ _ => rfl)) pa_nil))))) pa_nil)) (pe_callB (cr_sortedD hr.units) (by rfl) T.f_sorted (by decide +kernel) (pa_cons (pv 6) pa_nil)) (nomark _))))))), ?_⟩
    refine ⟨_, rfl, _, rfl, _, rfl, a, xs, rfl, .inl (SqL.of ha), _, rfl, b, ys, rfl, .inl (SqL.of hb), F.turned, F.shift, _, _, rfl, fun p1 H1 e1 h1 => ?_⟩
    rw [lx, ly] at h1
    have h1 : H1 p1 = some (.tup [.int F.counts.1, .int F.counts.2]) := h1
    refine ⟨p1, _, rfl, SqT.of h1, rfl, _, _, rfl, _, _, rfl, rfl, ?_⟩
    refine ⟨_, rfl, _, _, rfl, rfl, _, rfl, ?_⟩
    rw [decide_eq_false (show ¬ F.counts.1 < 0 by omega)]
    refine iteF ⟨_, rfl, _, _, rfl, rfl, _, rfl, ?_⟩
    rw [decide_eq_false (show ¬ F.counts.2 < 0 by omega)]
    refine iteF ?_
    have tot : F.counts.1.toNat + F.counts.2.toNat = F.top.length + F.bottom.length := by
      simp [endsL] at pl
      omega
    refine ⟨_, rfl, _, rfl, by omega, by omega, fun D1 hD1 => lcR (walk_range (lo := 0) (n := F.counts.1.toNat)) hD1 (by omega) EpAt (fun (i : Nat) => ((true, (i : Int)) : EP)) (fun _ _ _ _ e h => h.mono e) (fun _ _ => trivial) (fun i x H3 H4 kk hi e3 y kq => ?_) (fun acc1 H2 e2 ha1 hacc1 => ?_)⟩
    · obtain ⟨rfl, rfl⟩ := y
      refine ⟨rfl, _, rfl, (by show 2 ≤ sizeLine; decide), fun p hp => kq _ _ (Ex.new hp) ⟨p, rfl, ?_⟩⟩
      rw [upd_same]
      exact congrArg (fun j => some (HO.tup [V.str "top", V.int j])) (Int.zero_add _)
    refine ⟨_, rfl, _, rfl, by omega, by omega, fun D2 hD2 => lcR (walk_range (lo := 0) (n := F.counts.2.toNat)) hD2 (by omega) EpAt (fun (i : Nat) => ((false, (i : Int)) : EP)) (fun _ _ _ _ e h => h.mono e) (fun _ _ => trivial) (fun i x H3 H4 kk hi e3 y kq => ?_) (fun acc2 H3 e3 ha2 hacc2 => ?_)⟩
    · obtain ⟨rfl, rfl⟩ := y
      refine ⟨rfl, _, rfl, (by show 2 ≤ sizeLine; decide), fun p hp => kq _ _ (Ex.new hp) ⟨p, rfl, ?_⟩⟩
      rw [upd_same]
      exact congrArg (fun j => some (HO.tup [V.str "bottom", V.int j])) (Int.zero_add _)
    have l1 := paired_len hacc1
    have l2 := paired_len hacc2
    rw [List.length_map, List.length_range] at l1 l2
    refine ⟨D1, D2, acc1, acc2, rfl, rfl, e3 _ _ ha1, ha2, sz4 (by omega), fun p4 n4 => ?_⟩
    generalize hh4 : upd _ p4 _ = H4; obtain ⟨e4, t4⟩ := upd_facts n4 hh4; clear hh4
    have e04 := ((e1.trans e2).trans e3).trans e4
    have hw : Paired (EpAt H4) (acc1 ++ acc2) (endsL true F.counts.1 ++ endsL false F.counts.2) := paired_app (Paired.mapP hacc1 fun _ _ q => q.mono (e3.trans e4).n) (Paired.mapP hacc2 fun _ _ q => q.mono e4.n)
    refine ⟨_, rfl, _, rfl, a, b, xs, ys, rfl, rfl, e04 _ _ ha, e04 _ _ hb, sz4 (by omega), fun p5 n5 => ?_⟩
    generalize hh5 : upd _ p5 _ = H5; obtain ⟨e5, t5⟩ := upd_facts n5 hh5; clear hh5
    have e05 := e04.trans e5
    have hz : EntsAt H5 (xs ++ ys) (F.top ++ F.bottom) := paired_app (EntsAt.mono e05.n hx) (EntsAt.mono e05.n hy)
    have lz : (xs ++ ys).length = (F.top ++ F.bottom).length := paired_len hz
    refine ⟨p5, rfl, ⟨_, SqL.of t5⟩, fun D6 hD6 => lcR (walk_list (K := K) (a := p5) (xs := xs ++ ys)) hD6 (by rw [List.length_append]; omega) EpAt (fun (i : Nat) => ((F.top ++ F.bottom).map epOf).getD i (true, 0)) (fun _ _ _ _ e h => h.mono e) (fun _ e => SqL.of (e _ _ t5)) (fun i x H6 H7 kk hi e6 y kq => ?_) (fun acc H6 e6 ha6 hacc => ?_)⟩
    · obtain ⟨rfl, hy⟩ := y
      obtain ⟨x', hx1, hx2⟩ := paired_get hz hy
      obtain ⟨r, rfl, hr1⟩ := hx2.mono e6.n
      refine ⟨rfl, _, rfl, r, _, 0, _, rfl, rfl, SqT.of hr1, atI_nat (j := 0) rfl, _, rfl, r, _, 1, _, rfl, rfl, SqT.of hr1, atI_nat (j := 1) rfl, (by show 2 ≤ sizeLine; decide), fun p hp => kq _ _ (Ex.new hp) ⟨p, rfl, ?_⟩⟩
      rw [List.getD_eq_getElem?_getD, List.getElem?_map, hx1, upd_same] <;> rfl
    have er := range_getD ((F.top ++ F.bottom).map epOf) (true, 0)
    rw [List.length_map, ← lz] at er
    rw [er] at hacc
    refine ⟨D6, acc, _, rfl, SqL.of ha6, eps_dp hacc, eps_alike _, eps_sortable _, eps_deep _, fun ys1 p7 n7 d7 => ?_⟩
    generalize hh7 : upd _ p7 _ = H7; obtain ⟨e7, t7⟩ := upd_facts n7 hh7; clear hh7
    have e47 := (e5.trans e6).trans e7
    refine ⟨_, rfl, p4, _, _, rfl, SqL.of (e47 _ _ t4), eps_dp (Paired.mapP hw fun _ _ q => q.mono e47.n), eps_alike _, eps_sortable _, eps_deep _, fun ys2 p8 n8 d8 => ?_⟩
    generalize hh8 : upd _ p8 _ = H8; obtain ⟨e8, t8⟩ := upd_facts n8 hh8; clear hh8
    rw [← sorted_same hP.perm] at d8
    obtain ⟨m, em⟩ := sort_as_map ((F.top ++ F.bottom).map epOf)
    have em' : ((((F.top ++ F.bottom).map fun x => (x.e, x.d)) : List EP).map epD).mergeSort (PySem.W.dataLe false id) = m.map epD := em
    rw [em'] at d8
    rw [em] at d7
    refine ⟨.list (m.map epD), .list (m.map epD), .lst (SqL.of (e8 _ _ t7)) (dpAll_mono (e7.trans e8) d7), .lst (SqL.of t8) (dpAll_mono e8 d8), eps_shaped m, eps_shaped m, ?_⟩
    rw [eps_eqv]
    exact k _ (e04.trans (e47.trans e8))

/-- tuples stay -/
def Tn (H H' : Hp) : Prop := ∀ a xs, H a = some (HO.tup xs) → H' a = some (HO.tup xs)
theorem Ex.tt {H H' : Hp} (e : Ex H H') : Tn H H' := fun a xs h => e _ _ h
theorem Tn.trans {H H1 H2 : Hp} (a : Tn H H1) (b : Tn H1 H2) : Tn H H2 := fun x xs h => b _ _ (a _ _ h)
theorem Tn.put {H : Hp} {x C dx : Addr} {fs : List (Str × V)} {o : HO} (h : H x = some (.ins C dx fs)) : Tn H (upd H x o) := fun a xs e => by
  rw [upd_ne ?_]
  · exact e
  · intro z
    subst z
    rw [h] at e
    cases e
theorem EntAt.tt {H H' : Hp} (e : Tn H H') {v : V} {x : Ent} (h : EntAt H v x) : EntAt H' v x := let ⟨p, h1, h2⟩ := h; ⟨p, h1, e _ _ h2⟩
theorem EntsAt.tt {H H' : Hp} (e : Tn H H') {vs : List V} {xs : List Ent} (h : EntsAt H vs xs) : EntsAt H' vs xs := Paired.mapP h fun _ _ q => EntAt.tt e q
theorem TbAt.tt {H H' : Hp} (e : Tn H H') {v : V} {xs : List Ent} (h : TbAt H v xs) : TbAt H' v xs := let ⟨p, vs, h1, h2, h3⟩ := h; ⟨p, vs, h1, e _ _ h2, h3.tt e⟩
/-- a list or a tuple of entries -/
def EsAt (H : Hp) (v : V) (L : List Ent) : Prop := ∃ a xs, v = .ref a ∧ (H a = some (.lst xs) ∨ H a = some (.tup xs)) ∧ EntsAt H xs L
theorem EsAt.mono {H H' : Hp} (e : Ex H H') {v : V} {L : List Ent} (h : EsAt H v L) : EsAt H' v L := let ⟨a, xs, h1, h2, h3⟩ := h; ⟨a, xs, h1, h2.imp (e _ _) (e _ _), EntsAt.mono e.n h3⟩
theorem EsAt.len {H : Hp} {v : V} {L : List Ent} (h : EsAt H v L) : ∃ a xs, v = .ref a ∧ (SqL K H a xs ∨ SqT K H a xs) ∧ xs.length = L.length := let ⟨a, xs, h1, h2, h3⟩ := h; ⟨a, xs, h1, h2.imp SqL.of SqT.of, paired_len h3⟩
def entN (L : List Ent) (i : Nat) : Ent := L.getD i ⟨true, 0, false⟩
theorem lc_tuples {H : Hp} {Q : VK} {i : Nat} {L : List Ent} {v : V} {a0 a1 a2 a3 a4 a5 a6 a7 : Option V} (hv : ([a0, a1, a2, a3, a4, a5, a6, a7] : L2.St)[i]? = some (some v)) (h : EsAt H v L) (hL : L.length ≤ 400)
    (k : ∀ D acc H', Ex H H' → H' D = some (.lst acc) → EntsAt H' acc L → Q (.ref D) H') : tLc (iSeq K (tVar i)) (gName 7) tYes (tCB (rTupO K) (tCons (tVar 7) tNil)) [7] [a0, a1, a2, a3, a4, a5, a6, a7] H Q := by
  obtain ⟨a, xs, rfl, ha, hx⟩ := h
  have lx := paired_len hx
  have er := range_getD L ⟨true, 0, false⟩
  rw [← lx] at er
  refine ⟨_, hv, a, rfl, ?_⟩
  have step : ∀ (i : Nat) (x : V) (H3 : Hp) (kk : VK), Ex H H3 → xs[i]? = some x → (∀ y H4, Ex H3 H4 → EntAt H4 y (entN L i) → kk y H4) → tCB (rTupO K) (tCons (tVar 7) tNil) [a0, a1, a2, a3, a4, a5, a6, some x] H3 kk := by
    intro i x H3 kk e3 hx1 kq
    obtain ⟨y, hy1, hy2⟩ := paired_get hx hx1
    have hy3 := hy2.mono e3.n
    obtain ⟨r, rfl, hr⟩ := hy2.mono e3.n
    refine ⟨_, rfl, r, _, rfl, .inr ⟨SqT.of hr, kq _ _ (Ex.refl _) ?_⟩⟩
    unfold entN
    rw [List.getD_eq_getElem?_getD, hy1]
    exact hy3
  rcases ha with ha | ha
  · refine .inl ⟨⟨xs, SqL.of ha⟩, fun D hD => lcR (walk_list (K := K) (a := a) (xs := xs)) hD (by omega) EntAt (entN L) (fun _ _ _ _ e h => h.mono e) (fun _ e => SqL.of (e _ _ ha)) (fun i x H3 H4 kk hi e3 y kq => ?_) (fun acc H3 e3 ha3 hacc => ?_)⟩
    · obtain ⟨rfl, hy⟩ := y
      exact ⟨rfl, step i x _ _ e3 hy kq⟩
    · exact k D acc H3 e3 ha3 (er ▸ hacc)
  · refine .inr ⟨⟨xs, SqT.of ha⟩, fun D hD => lcR (walk_tup (K := K) (a := a) (xs := xs)) hD (by omega) EntAt (entN L) (fun _ _ _ _ e h => h.mono e) (fun _ e => SqT.of (e _ _ ha)) (fun i x H3 H4 kk hi e3 y kq => ?_) (fun acc H3 e3 ha3 hacc => ?_)⟩
    · obtain ⟨rfl, hy⟩ := y
      exact ⟨rfl, step i x _ _ e3 hy kq⟩
    · exact k D acc H3 e3 ha3 (er ▸ hacc)
def sp_Form_init : Sp := fun vs H Q _ => ∃ (F : Fm) (x dx : Addr) (v u : V), vs = [.ref x, .bl F.turned, .int F.shift, v, u] ∧ H x = some (.ins (He.ga K "Form") dx []) ∧ EsAt H v F.top ∧ EsAt H u F.bottom ∧ F.top.length ≤ 400 ∧ F.bottom.length ≤ 400 ∧ F.Parts ∧
  ∀ H' a b, ExX x H H' → H' x = some (.ins (He.ga K "Form") dx (fmFs F.trim a b)) → TbAt H' a F.trim.top → TbAt H' b F.trim.bottom → Q .non H'
theorem ok_Form_init (T : Tx w K mg) : FnR P w K mg base CX0 3 (He.ma K (He.ga K "Form") "__init__") (sp_Form_init (K := K)) := by
  refine mkR T.d_Form_init sc_Form_init (fun _ _ _ _ _ _ us hl => match us, hl with | [_, _, _, _, _], _ => rfl) (fun vs H Q E h => ?_) (fun cdv A outer s H vs Q E hr h => ?_)
  · obtain ⟨F, x, dx, v, u, rfl, _⟩ := h
    rfl
  · obtain ⟨F, x, dx, v, u, rfl, hx, hv, hu, la, lb, hP, k⟩ := h
    obtain ⟨a, xs, ea, sa, la1⟩ := hv.len (K := K)
    obtain ⟨b, ys, eb, sb, lb1⟩ := hu.len (K := K)
    obtain ⟨uW, cW⟩ := He.conB_ok (T.co_Form_WIDEST)
    refine ⟨_, (pss_cons (ps_if (PW.pt (pw_or (pt_cmpR op_gt (pe_callB call_len_seq (by rfl) T.f_len (by decide +kernel) (pa_cons (pv 3) pa_nil)) (pe_con (pv 0) rfl) (nomark _)) (pw_or1 (pt_cmpR op_gt (pe_callB call_len_seq (by rfl) T.f_len (by decide +kernel) (pa_cons (pv 4) pa_nil)) (pe_con (pv 0) rfl) (nomark _))))) pss_never pss_nil) (pss_cons (ps_par (i := 5) (j := 6) (by rfl) sc_Form_init.nd rfl rfl (by decide) rfl rfl (pa_cons (pe_lc (own := [("entry", 7)]) (g := gName 7) (te := tCB (rTupO K) (tCons (tVar 7) tNil)) (by rfl) sc_Form_init.nd (pi_seq (pv 3)) (blkOk_by (own := [("entry", 7)]) (N := n_Form_init) (sc := defScope s_Form_init) (by decide +kernel)) (fun _ _ _ _ _ => (pg_name (i := 7) sc_Form_init.nd rfl (Or.inl rfl))) (fun _ _ _ _ _ => pts_nil) (fun _ _ _ _ _ => (pe_callTy call_tupR (by rfl) T.f_tuple (by decide +kernel) (pa_cons (pv 7) pa_nil)))) (pa_cons (pe_lc (own := [("entry", 7)]) (g := gName 7) (te := tCB (rTupO K) (tCons (tVar 7) tNil)) (by rfl) sc_Form_init.nd (pi_seq (pv 4)) (blkOk_by (own := [("entry", 7)]) (N := n_Form_init) (sc := defScope s_Form_init) (by decide +kernel)) (fun _ _ _ _ _ => (pg_name (i := 7) sc_Form_init.nd rfl (Or.inl rfl))) (fun _ _ _ _ _ => pts_nil) (fun _ _ _ _ _ => (pe_callTy call_tupR (by rfl) T.f_tuple (by decide +kernel) (pa_cons (pv 7) pa_nil)))) pa_nil)) (by rfl)) (pss_cons (ps_if (pt_not (pt_val (c_call (ok_are_parts T) (hr.mono (by decide)) (by rfl) T.g_are_parts (kp_of T.d_are_parts) (pa_cons (pv 1) (pa_cons (pv 2) (pa_cons (pv 5) (pa_cons (pv 6) pa_nil))))))) pss_never pss_nil) (pss_cons (ps_fld (pv 0) (pv 1) rfl) (pss_cons (ps_fld (pv 0) (pv 2) rfl) (pss_cons (ps_fld (pv 0) (c_call (ok_trimmed T) (hr.mono (by decide)) (by rfl) T.g_trimmed (kp_of T.d_trimmed) (pa_cons (pv 1) (pa_cons (pv 2) (pa_cons pe_str (pa_cons (pv 5) pa_nil))))) rfl) (pss_one (ps_fld (pv 0) (c_call (ok_trimmed T) (hr.mono (by decide)) (by rfl) T.g_trimmed (kp_of T.d_trimmed) (pa_cons (pv 1) (pa_cons (pv 2) (pa_cons pe_str (pa_cons (pv 6) pa_nil))))) rfl)))))))), ?_⟩
    refine ⟨_, rfl, a, xs, by rw [ea], sa, _, rfl, x, _, dx, _, _, uW, rfl, hx, T.cl_Form, cW, lk_nil, _, _, rfl, rfl, _, rfl, ?_⟩
    rw [decide_eq_false (show ¬ (400 : Int) < (xs.length : Nat) by omega)]
    refine iteF ⟨_, rfl, b, ys, by rw [eb], sb, _, rfl, x, _, dx, _, _, uW, rfl, hx, T.cl_Form, cW, lk_nil, _, _, rfl, rfl, _, rfl, ?_⟩
    rw [decide_eq_false (show ¬ (400 : Int) < (ys.length : Nat) by omega)]
    refine iteF ?_
    simp only [tNext, tSeq, tPar, tCons]
    refine lc_tuples (i := 3) rfl hv la fun D1 acc1 H1 e1 h1 q1 => ?_
    refine lc_tuples (i := 4) rfl (hu.mono e1) lb fun D2 acc2 H2 e2 h2 q2 => ?_
    refine ⟨_, _, rfl, _, rfl, _, rfl, _, rfl, _, rfl, F, D1, D2, acc1, acc2, rfl, e2 _ _ h1, h2, EntsAt.mono e2.n q1, q2, la, lb, hP, fun H3 e3 => ⟨_, rfl, iteF ?_⟩⟩
    have e03 := (e1.trans e2).trans e3
    have x3 := e03 _ _ hx
    have d1 : D1 ≠ x := fun z => by
      rw [z, e1 _ _ hx] at h1
      cases h1
    have d2 : D2 ≠ x := fun z => by
      rw [z, e2 _ _ (e1 _ _ hx)] at h2
      cases h2
    have z1 := e3 _ _ (e2 _ _ h1)
    have z2 := e3 _ _ h2
    have q1 := EntsAt.mono (e2.trans e3).n q1
    have q2 := EntsAt.mono e3.n q2
    -- faced
    refine ⟨_, rfl, _, rfl, x, _, dx, _, rfl, x3, T.cl_Form, T.no_Form_faced, (by show 0 < 1000; decide), ?_⟩
    rw [putF_nil]
    have xx4 : ExX x H (upd H3 x (.ins (He.ga K "Form") dx [("faced", .bl F.turned)])) := e03.x.trans ExX.put
    have z1 : (upd H3 x (.ins (He.ga K "Form") dx [("faced", .bl F.turned)])) D1 = _ := (upd_ne d1).trans z1
    have z2 : (upd H3 x (.ins (He.ga K "Form") dx [("faced", .bl F.turned)])) D2 = _ := (upd_ne d2).trans z2
    have t4 := Tn.put (o := .ins (He.ga K "Form") dx [("faced", .bl F.turned)]) x3
    have x4 : (upd H3 x (.ins (He.ga K "Form") dx [("faced", .bl F.turned)])) x = _ := upd_same
    have q1 := q1.tt t4
    have q2 := q2.tt t4
    generalize upd H3 x (.ins (He.ga K "Form") dx [("faced", .bl F.turned)]) = H4 at *
    -- moved_by
    refine ⟨_, rfl, _, rfl, x, _, dx, _, rfl, x4, T.cl_Form, T.no_Form_moved_by, (by show 1 < 1000; decide), ?_⟩
    rw [putF_ne (by decide +kernel), putF_nil]
    have xx5 : ExX x H (upd H4 x (.ins (He.ga K "Form") dx [("faced", .bl F.turned), ("moved_by", .int F.shift)])) := xx4.trans ExX.put
    have z1 : (upd H4 x (.ins (He.ga K "Form") dx [("faced", .bl F.turned), ("moved_by", .int F.shift)])) D1 = _ := (upd_ne d1).trans z1
    have z2 : (upd H4 x (.ins (He.ga K "Form") dx [("faced", .bl F.turned), ("moved_by", .int F.shift)])) D2 = _ := (upd_ne d2).trans z2
    have t5 := Tn.put (o := .ins (He.ga K "Form") dx [("faced", .bl F.turned), ("moved_by", .int F.shift)]) x4
    have x5 : (upd H4 x (.ins (He.ga K "Form") dx [("faced", .bl F.turned), ("moved_by", .int F.shift)])) x = _ := upd_same
    have q1 := q1.tt t5
    have q2 := q2.tt t5
    generalize upd H4 x (.ins (He.ga K "Form") dx [("faced", .bl F.turned), ("moved_by", .int F.shift)]) = H5 at *
    -- first
    refine ⟨_, rfl, _, rfl, _, rfl, F.turned, F.shift, true, D1, acc1, F.top, rfl, z1, q1, by omega, fun va H6 e6 ta => ?_⟩
    have x6 := e6 _ _ x5
    refine ⟨_, rfl, x, _, dx, _, rfl, x6, T.cl_Form, T.no_Form_first, (by show 2 < 1000; decide), ?_⟩
    rw [putF_ne (by decide +kernel), putF_ne (by decide +kernel), putF_nil]
    have xx7 : ExX x H (upd H6 x (.ins (He.ga K "Form") dx [("faced", .bl F.turned), ("moved_by", .int F.shift), ("first", va)])) := (xx5.trans e6.x).trans ExX.put
    have z2 : (upd H6 x (.ins (He.ga K "Form") dx [("faced", .bl F.turned), ("moved_by", .int F.shift), ("first", va)])) D2 = _ := (upd_ne d2).trans (e6 _ _ z2)
    have t7 := Tn.put (o := .ins (He.ga K "Form") dx [("faced", .bl F.turned), ("moved_by", .int F.shift), ("first", va)]) x6
    have x7 : (upd H6 x (.ins (He.ga K "Form") dx [("faced", .bl F.turned), ("moved_by", .int F.shift), ("first", va)])) x = _ := upd_same
    have q2 := q2.tt (e6.tt.trans t7)
    have ta := ta.tt t7
    generalize upd H6 x (.ins (He.ga K "Form") dx [("faced", .bl F.turned), ("moved_by", .int F.shift), ("first", va)]) = H7 at *
    -- last
    refine ⟨_, rfl, _, rfl, _, rfl, F.turned, F.shift, false, D2, acc2, F.bottom, rfl, z2, q2, by omega, fun vb H8 e8 tb => ?_⟩
    have x8 := e8 _ _ x7
    refine ⟨_, rfl, x, _, dx, _, rfl, x8, T.cl_Form, T.no_Form_last, (by show 3 < 1000; decide), ?_⟩
    rw [putF_ne (by decide +kernel), putF_ne (by decide +kernel), putF_ne (by decide +kernel), putF_nil]
    exact k _ va vb ((xx7.trans e8.x).trans ExX.put) upd_same (ta.tt (e8.tt.trans (Tn.put x8))) (tb.tt (Tn.put x8))
end
end Pp

set_option Elab.async false
set_option linter.all false
set_option maxRecDepth 100000
set_option maxHeartbeats 4000000
/-! forms: what they answer -/
namespace Pp
open PySem PySem.Spec PyProof.Rows L2
section
variable {P : Program} {w : World} {K : PySem.W.Frag} {mg : Str → Option Value} {base : Heap}
theorem form_made {H : Hp} {Q : Addr → Hp → Prop} {E : XK} {v u : V} {F : Fm} (hv : EsAt H v F.top) (hu : EsAt H u F.bottom) (la : F.top.length ≤ 400) (lb : F.bottom.length ≤ 400) (hP : F.Parts) (k : ∀ q H', Ex H H' → FmAt K H' (.ref q) F.trim → Q q H') (x dx : Addr) (hx : H x = none) (hd : H dx = none) (hn : dx ≠ x) :
    sp_Form_init (K := K) [.ref x, .bl F.turned, .int F.shift, v, u] (upd (upd H dx (.own x)) x (.ins (He.ga K "Form") dx [])) (fun v H2 => v = .non ∧ Q x H2) E := by
  have e : Ex H (upd (upd H dx (.own x)) x (.ins (He.ga K "Form") dx [])) := (Ex.new hd).trans (Ex.new (by rw [upd_ne (Ne.symm hn)]; exact hx))
  refine ⟨F, x, dx, v, u, rfl, upd_same, hv.mono e, hu.mono e, la, lb, hP, fun H' a b e2 h1 h2 h3 => ⟨rfl, ?_⟩⟩
  exact k x H' (e.thenX hx e2) ⟨x, dx, a, b, rfl, h1, h2, h3⟩
theorem still_parts : stillF.Parts := ⟨by decide, by decide, by decide⟩
theorem es_nil {H : Hp} {a : Addr} (h : H a = some (.lst [])) : EsAt H (.ref a) [] := ⟨a, [], rfl, .inl h, .nil⟩
def sp_Form_still : Sp := fun vs H Q _ => vs = [] ∧ ∀ q H', Ex H H' → FmAt K H' (.ref q) stillF → Q (.ref q) H'
theorem ok_Form_still (T : Tx w K mg) : FnR P w K mg base CX0 5 (He5.wf K (He.ga K "Form") "staticmethod" "still") (sp_Form_still (K := K)) := by
  refine mkR T.d_Form_still sc_Form_still (fun _ _ _ _ _ _ us hl => match us, hl with | [], _ => rfl) (fun vs H Q E h => ?_) (fun cdv A outer s H vs Q E hr h => ?_)
  · obtain ⟨rfl, _⟩ := h
    rfl
  · obtain ⟨rfl, k⟩ := h
    refine ⟨_, (pss_one (ps_ret (StX.pe_makeR T.mk_Form (ok_Form_init T) (hr.mono (by decide)) (by rfl) T.g_Form pass0 (pa_cons pe_bl (pa_cons pe_int (pa_cons (pe_lst pa_nil) (pa_cons (pe_lst pa_nil) pa_nil))))))), ?_⟩
    refine ⟨Nat.zero_le _, fun p1 n1 => ?_⟩
    generalize hh1 : upd _ p1 _ = H1; obtain ⟨e1, t1⟩ := upd_facts n1 hh1; clear hh1
    refine ⟨Nat.zero_le _, fun p2 n2 => ?_⟩
    generalize hh2 : upd _ p2 _ = H2; obtain ⟨e2, t2⟩ := upd_facts n2 hh2; clear hh2
    exact form_made (F := stillF) (es_nil (e2 _ _ t1)) (es_nil t2) (Nat.zero_le _) (Nat.zero_le _) still_parts fun q H' e h => k q H' ((e1.trans e2).trans e) h
def sp_Form_turned : Sp := fun vs H Q _ => ∃ v F, vs = [v] ∧ FmAt K H v F ∧ Q (.bl F.turned) H
theorem ok_Form_turned (T : Tx w K mg) : FnR P w K mg base CX0 1 (He5.wf K (He.ga K "Form") "property" "turned") (sp_Form_turned (K := K)) := by
  refine mkR T.d_Form_turned sc_Form_turned (fun _ _ _ _ _ _ us hl => match us, hl with | [_], _ => rfl) (fun vs H Q E h => ?_) (fun cdv A outer s H vs Q E hr h => ?_)
  · obtain ⟨v, F, rfl, _⟩ := h
    rfl
  · obtain ⟨v, F, rfl, ⟨p, dx, a, b, rfl, hp, ha, hb⟩, k⟩ := h
    exact ⟨_, (pss_one (ps_ret (pe_fld (pv 0) rfl))), _, rfl, p, _, dx, _, _, rfl, hp, T.cl_Form, T.no_Form_faced, fm_faced, k⟩
def sp_Form_shift : Sp := fun vs H Q _ => ∃ v F, vs = [v] ∧ FmAt K H v F ∧ Q (.int F.shift) H
theorem ok_Form_shift (T : Tx w K mg) : FnR P w K mg base CX0 1 (He5.wf K (He.ga K "Form") "property" "shift") (sp_Form_shift (K := K)) := by
  refine mkR T.d_Form_shift sc_Form_shift (fun _ _ _ _ _ _ us hl => match us, hl with | [_], _ => rfl) (fun vs H Q E h => ?_) (fun cdv A outer s H vs Q E hr h => ?_)
  · obtain ⟨v, F, rfl, _⟩ := h
    rfl
  · obtain ⟨v, F, rfl, ⟨p, dx, a, b, rfl, hp, ha, hb⟩, k⟩ := h
    exact ⟨_, (pss_one (ps_ret (pe_fld (pv 0) rfl))), _, rfl, p, _, dx, _, _, rfl, hp, T.cl_Form, T.no_Form_moved_by, fm_moved, k⟩
def Fm.least (F : Fm) : Int := F.top.length + F.bottom.length
def sp_Form_least : Sp := fun vs H Q _ => ∃ v F, vs = [v] ∧ FmAt K H v F ∧ Q (.int F.least) H
theorem ok_Form_least (T : Tx w K mg) : FnR P w K mg base CX0 1 (He5.wf K (He.ga K "Form") "property" "least") (sp_Form_least (K := K)) := by
  refine mkR T.d_Form_least sc_Form_least (fun _ _ _ _ _ _ us hl => match us, hl with | [_], _ => rfl) (fun vs H Q E h => ?_) (fun cdv A outer s H vs Q E hr h => ?_)
  · obtain ⟨v, F, rfl, _⟩ := h
    rfl
  · obtain ⟨v, F, rfl, ⟨p, dx, _, _, rfl, hp, ⟨a, xs, rfl, ha, hx⟩, ⟨b, ys, rfl, hb, hy⟩⟩, k⟩ := h
    refine ⟨_, (pss_one (ps_ret (pe_op op_add (pe_callB call_len_seq (by rfl) T.f_len (by decide +kernel) (pa_cons (pe_fld (pv 0) rfl) pa_nil)) (pe_callB call_len_seq (by rfl) T.f_len (by decide +kernel) (pa_cons (pe_fld (pv 0) rfl) pa_nil))))), ?_⟩
    have lx := paired_len hx
    have ly := paired_len hy
    refine ⟨_, rfl, p, _, dx, _, _, rfl, hp, T.cl_Form, T.no_Form_first, fm_first, a, xs, rfl, .inr (SqT.of ha), _, rfl, p, _, dx, _, _, rfl, hp, T.cl_Form, T.no_Form_last, fm_last, b, ys, rfl, .inr (SqT.of hb), _, _, rfl, rfl, ?_⟩
    rw [lx, ly]
    exact k
def sp_Form_top : Sp := fun vs H Q _ => ∃ v F, vs = [v] ∧ FmAt K H v F ∧ ∀ q xs H', Ex H H' → H' q = some (.lst xs) → xs.length = F.top.length → Q (.ref q) H'
theorem ok_Form_top (T : Tx w K mg) : FnR P w K mg base CX0 1 (He.ma K (He.ga K "Form") "top") (sp_Form_top (K := K)) := by
  refine mkR T.d_Form_top sc_Form_top (fun _ _ _ _ _ _ us hl => match us, hl with | [_], _ => rfl) (fun vs H Q E h => ?_) (fun cdv A outer s H vs Q E hr h => ?_)
  · obtain ⟨v, F, rfl, _⟩ := h
    rfl
  · obtain ⟨v, F, rfl, ⟨p, dx, _, _, rfl, hp, ⟨a, xs, rfl, ha, hx⟩, ⟨b, ys, rfl, hb, hy⟩⟩, k⟩ := h
    exact ⟨_, (pss_one (ps_ret (pe_callTy call_list_of (by rfl) T.f_list (by decide +kernel) (pa_cons (pe_fld (pv 0) rfl) pa_nil)))), _, rfl, p, _, dx, _, _, rfl, hp, T.cl_Form, T.no_Form_first, fm_first, a, xs, rfl, .inr (SqT.of ha), fun q hq => k q xs _ (Ex.new hq) upd_same (paired_len hx)⟩
def sp_Form_bottom : Sp := fun vs H Q _ => ∃ v F, vs = [v] ∧ FmAt K H v F ∧ ∀ q xs H', Ex H H' → H' q = some (.lst xs) → xs.length = F.bottom.length → Q (.ref q) H'
theorem ok_Form_bottom (T : Tx w K mg) : FnR P w K mg base CX0 1 (He.ma K (He.ga K "Form") "bottom") (sp_Form_bottom (K := K)) := by
  refine mkR T.d_Form_bottom sc_Form_bottom (fun _ _ _ _ _ _ us hl => match us, hl with | [_], _ => rfl) (fun vs H Q E h => ?_) (fun cdv A outer s H vs Q E hr h => ?_)
  · obtain ⟨v, F, rfl, _⟩ := h
    rfl
  · obtain ⟨v, F, rfl, ⟨p, dx, _, _, rfl, hp, ⟨a, xs, rfl, ha, hx⟩, ⟨b, ys, rfl, hb, hy⟩⟩, k⟩ := h
    exact ⟨_, (pss_one (ps_ret (pe_callTy call_list_of (by rfl) T.f_list (by decide +kernel) (pa_cons (pe_fld (pv 0) rfl) pa_nil)))), _, rfl, p, _, dx, _, _, rfl, hp, T.cl_Form, T.no_Form_last, fm_last, b, ys, rfl, .inr (SqT.of hb), fun q hq => k q ys _ (Ex.new hq) upd_same (paired_len hy)⟩
def sp_Form_entry : Sp := fun vs H Q _ => ∃ v F e d, vs = [v, .str (endS e), .int d] ∧ FmAt K H v F ∧ 0 ≤ d ∧ ∀ u H', Ex H H' → EntAt H' u (F.entry e d) → Q u H'
theorem ok_Form_entry (T : Tx w K mg) : FnR P w K mg base CX0 2 (He.ma K (He.ga K "Form") "entry") (sp_Form_entry (K := K)) := by
  refine mkR T.d_Form_entry sc_Form_entry (fun _ _ _ _ _ _ us hl => match us, hl with | [_, _, _], _ => rfl) (fun vs H Q E h => ?_) (fun cdv A outer s H vs Q E hr h => ?_)
  · obtain ⟨v, F, e, d, rfl, _⟩ := h
    rfl
  · obtain ⟨v, F, e, d, rfl, ⟨p, dx, _, _, rfl, hp, ⟨a, xs, rfl, ha, hx⟩, ⟨b, ys, rfl, hb, hy⟩⟩, hd, k⟩ := h
    refine ⟨_, (pss_cons (ps_set (i := 3) sc_Form_entry.nd rfl (Or.inl rfl) (pe_ifExp (pt_cmpR op_eq (pv 1) pe_str (nomark _)) (pe_fld (pv 0) rfl) (pe_fld (pv 0) rfl))) (pss_one (ps_ret (pe_ifExp (pt_cmpR op_lt (pv 2) (pe_callB call_len_seq (by rfl) T.f_len (by decide +kernel) (pa_cons (pv 3) pa_nil)) (nomark _)) (pe_ix ix_tup (pv 3) (pv 2) (fun _ _ => rfl)) (c_call (ok_ruled T) (hr.mono (by decide)) (by rfl) T.g_ruled (kp_of T.d_ruled) (pa_cons (pe_fld (pv 0) rfl) (pa_cons (pe_fld (pv 0) rfl) (pa_cons (pv 1) (pa_cons (pv 2) pa_nil))))))))), ?_⟩
    have hw : ∃ (c : Addr) (zs : List V), H c = some (.tup zs) ∧ EntsAt H zs (F.table e) ∧ c = (if e = true then a else b) := by
      cases e with
      | true => exact ⟨a, xs, ha, hx, rfl⟩
      | false => exact ⟨b, ys, hb, hy, rfl⟩
    obtain ⟨c, zs, hc, hz, ec⟩ := hw
    have lz := paired_len hz
    unfold Fm.entry at k
    have tail : ∀ D : Ends, D.rt = Q → tRet (tIf (tTest (tOp (rI0 fun i j => V.bl (decide (i < j))) (tVar 2) (tCB (fun xs H Q => ∃ p ys, xs = [V.ref p] ∧ (SqL K H p ys ∨ SqT K H p ys) ∧ Q (V.int ys.length) H) (tCons (tVar 3) tNil)))) (tOp (rIxT K) (tVar 3) (tVar 2))
        (tCl sp_ruled (tCons (tFld K (tVar 0) "faced") (tCons (tFld K (tVar 0) "moved_by") (tCons (tVar 1) (tCons (tVar 2) tNil)))))) D [some (.ref p), some (.str (endS e)), some (.int d), some (.ref c)] H := by
      rintro D rfl
      refine ⟨_, rfl, _, rfl, c, zs, rfl, .inr (SqT.of hc), _, _, rfl, rfl, _, rfl, ?_⟩
      by_cases hl : d < ((F.table e).length : Nat)
      · rw [lz, decide_eq_true hl]
        rw [if_pos hl] at k
        obtain ⟨n, rfl⟩ := Int.eq_ofNat_of_zero_le hd
        have hn : n < zs.length := by omega
        obtain ⟨y, hy1, hy2⟩ := paired_get hz (List.getElem?_eq_getElem hn)
        refine iteT ⟨_, rfl, _, rfl, c, zs, _, _, rfl, rfl, SqT.of hc, atI_nat (List.getElem?_eq_getElem hn), k _ _ (Ex.refl _) ?_⟩
        rw [show ((n : Nat) : Int).toNat = n from rfl, List.getD_eq_getElem?_getD, hy1]
        exact hy2
      · rw [lz, decide_eq_false hl]
        rw [if_neg hl] at k
        exact iteF ⟨_, rfl, p, _, dx, _, _, rfl, hp, T.cl_Form, T.no_Form_faced, fm_faced, _, rfl, p, _, dx, _, _, rfl, hp, T.cl_Form, T.no_Form_moved_by, fm_moved, _, rfl, _, rfl, F.turned, F.shift, e, d, rfl, k⟩
    refine ⟨_, rfl, rfl, _, rfl, ?_⟩
    cases e with
    | true =>
      rw [decide_eq_true (show V.str (endS true) = V.str "top" from rfl)]
      have ec : c = a := ec
      subst ec
      exact iteT ⟨_, rfl, p, _, dx, _, _, rfl, hp, T.cl_Form, T.no_Form_first, fm_first, tail _ rfl⟩
    | false =>
      rw [decide_eq_false (show ¬ V.str (endS false) = V.str "top" by decide +kernel)]
      have ec : c = b := ec
      subst ec
      exact iteF ⟨_, rfl, p, _, dx, _, _, rfl, hp, T.cl_Form, T.no_Form_last, fm_last, tail _ rfl⟩
end
end Pp

set_option Elab.async false
set_option linter.all false
set_option maxRecDepth 100000
set_option maxHeartbeats 4000000
/-! forms: products -/
namespace Pp
open PySem PySem.Spec PyProof.Rows L2
section
variable {P : Program} {w : World} {K : PySem.W.Frag} {mg : Str → Option Value} {base : Heap}
def sp_Form_sent : Sp := fun vs H Q _ => ∃ v F n p, vs = [v, .int n, .int p] ∧ FmAt K H v F ∧ 0 ≤ p ∧ p < n ∧ ∀ u H', Ex H H' → PairAt H' u (F.sent n p) → Q u H'
theorem ok_Form_sent (T : Tx w K mg) : FnR P w K mg base CX0 3 (He.ma K (He.ga K "Form") "sent") (sp_Form_sent (K := K)) := by
  refine mkR T.d_Form_sent sc_Form_sent (fun _ _ _ _ _ _ us hl => match us, hl with | [_, _, _], _ => rfl) (fun vs H Q E h => ?_) (fun cdv A outer s H vs Q E hr h => ?_)
  · obtain ⟨v, F, n, p, rfl, _⟩ := h
    rfl
  · obtain ⟨v, F, n, p, rfl, hF, hp0, hpn, k⟩ := h
    have hF' := hF
    obtain ⟨q, dx, _, _, rfl, hq, ⟨a, xs, rfl, ha, hx⟩, ⟨b, ys, rfl, hb, hy⟩⟩ := hF
    have lx := paired_len hx
    have ly := paired_len hy
    unfold Fm.sent at k
    refine ⟨_, (pss_cons (ps_set (i := 3) sc_Form_sent.nd rfl (Or.inl rfl) (pe_op op_sub (pe_op op_sub (pv 1) pe_int) (pv 2))) (pss_cons (ps_if (PW.pt (pw_or (pt_cmpR op_lt (pv 2) (pe_callB call_len_seq (by rfl) T.f_len (by decide +kernel) (pa_cons (pe_fld (pv 0) rfl) pa_nil)) (nomark _)) (pw_or1 (pt_cmpR op_ge (pv 3) (pe_callB call_len_seq (by rfl) T.f_len (by decide +kernel) (pa_cons (pe_fld (pv 0) rfl) pa_nil)) (nomark _))))) (pss_one (ps_asg (c_meth (pv 0) T.cl_Form T.me_Form_entry (ok_Form_entry T) (hr.mono (by decide)) (pa_cons pe_str (pa_cons (pv 2) pa_nil))) (pg_tup (by rfl) (pgs_cons (pg_name (i := 4) sc_Form_sent.nd rfl (Or.inl rfl)) (pgs_cons (pg_name (i := 5) sc_Form_sent.nd rfl (Or.inl rfl)) (pgs_cons (pg_name (i := 6) sc_Form_sent.nd rfl (Or.inl rfl)) pgs_nil)))))) (pss_one (ps_asg (c_meth (pv 0) T.cl_Form T.me_Form_entry (ok_Form_entry T) (hr.mono (by decide)) (pa_cons pe_str (pa_cons (pv 3) pa_nil))) (pg_tup (by rfl) (pgs_cons (pg_name (i := 4) sc_Form_sent.nd rfl (Or.inl rfl)) (pgs_cons (pg_name (i := 5) sc_Form_sent.nd rfl (Or.inl rfl)) (pgs_cons (pg_name (i := 6) sc_Form_sent.nd rfl (Or.inl rfl)) pgs_nil))))))) (pss_one (ps_ret (pe_tup (pa_cons (pe_ifExp (pt_cmpR op_eq (pv 4) pe_str (nomark _)) (pv 5) (pe_op op_sub (pe_op op_sub (pv 1) pe_int) (pv 5))) (pa_cons (pv 6) pa_nil))))))), ?_⟩
    refine ⟨_, rfl, _, _, rfl, rfl, _, rfl, _, _, rfl, rfl, ?_⟩
    have tail : ∀ (x : Ent) (r : Addr) (H1 : Hp) (D : Ends) (z0 : Option V), D.rt = Q → Ex H H1 → H1 r = some (.tup [.str (endS x.e), .int x.d, .bl x.t]) → (∀ u H', Ex H H' → PairAt H' u (resF n x) → Q u H') →
        tRet (tTup (tCons (tIf (tTest (tOp rEq (tVar 4) (tC (.str "top")))) (tVar 5) (tOp (rI0 fun i j => V.int (i - j)) (tOp (rI0 fun i j => V.int (i - j)) (tVar 1) (tC (.int 1))) (tVar 5))) (tCons (tVar 6) tNil))) D
          [some (.ref q), some (.int n), some (.int p), some (.int (n - 1 - p)), some (.str (endS x.e)), some (.int x.d), some (.bl x.t)] H1 := by
      rintro ⟨e, d, t⟩ r H1 D z0 rfl e1 h1 k
      refine ⟨_, rfl, rfl, _, rfl, ?_⟩
      cases e with
      | true =>
        rw [decide_eq_true (show V.str (endS true) = V.str "top" from rfl)]
        exact iteT ⟨_, rfl, _, rfl, (by show 2 ≤ sizeLine; decide), fun p2 n2 => k _ _ (e1.trans (Ex.new n2)) ⟨p2, rfl, upd_same⟩⟩
      | false =>
        rw [decide_eq_false (show ¬ V.str (endS false) = V.str "top" by decide +kernel)]
        exact iteF ⟨_, rfl, _, _, rfl, rfl, _, rfl, _, _, rfl, rfl, _, rfl, (by show 2 ≤ sizeLine; decide), fun p2 n2 => k _ _ (e1.trans (Ex.new n2)) ⟨p2, rfl, upd_same⟩⟩
    refine ⟨_, rfl, _, rfl, q, _, dx, _, _, rfl, hq, T.cl_Form, T.no_Form_first, fm_first, a, xs, rfl, .inr (SqT.of ha), _, _, rfl, rfl, _, rfl, ?_⟩
    by_cases c1 : p < (F.top.length : Nat)
    · rw [lx, decide_eq_true c1]
      rw [if_pos (Or.inl c1)] at k
      refine iteT (iteT ⟨_, rfl, q, dx, _, rfl, hq, fm_no (by decide +kernel) (by decide +kernel) (by decide +kernel) (by decide +kernel), _, rfl, _, F, true, p, rfl, hF', hp0, fun u H1 e1 hu => ?_⟩)
      obtain ⟨r, rfl, h1⟩ := hu
      exact ⟨r, _, rfl, SqT.of h1, rfl, _, _, rfl, _, _, rfl, _, _, rfl, rfl, tail _ r H1 _ none rfl e1 h1 k⟩
    · rw [lx, decide_eq_false c1]
      refine iteF ⟨_, rfl, _, rfl, q, _, dx, _, _, rfl, hq, T.cl_Form, T.no_Form_last, fm_last, b, ys, rfl, .inr (SqT.of hb), _, _, rfl, rfl, _, rfl, ?_⟩
      by_cases c2 : n - 1 - p ≥ (F.bottom.length : Nat)
      · rw [ly, decide_eq_true c2]
        rw [if_pos (Or.inr c2)] at k
        refine iteT ⟨_, rfl, q, dx, _, rfl, hq, fm_no (by decide +kernel) (by decide +kernel) (by decide +kernel) (by decide +kernel), _, rfl, _, F, true, p, rfl, hF', hp0, fun u H1 e1 hu => ?_⟩
        obtain ⟨r, rfl, h1⟩ := hu
        exact ⟨r, _, rfl, SqT.of h1, rfl, _, _, rfl, _, _, rfl, _, _, rfl, rfl, tail _ r H1 _ none rfl e1 h1 k⟩
      · rw [ly, decide_eq_false c2]
        rw [if_neg (fun z => z.elim c1 c2)] at k
        refine iteF ⟨_, rfl, q, dx, _, rfl, hq, fm_no (by decide +kernel) (by decide +kernel) (by decide +kernel) (by decide +kernel), _, rfl, _, F, false, _, rfl, hF', by omega, fun u H1 e1 hu => ?_⟩
        obtain ⟨r, rfl, h1⟩ := hu
        exact ⟨r, _, rfl, SqT.of h1, rfl, _, _, rfl, _, _, rfl, _, _, rfl, rfl, tail _ r H1 _ none rfl e1 h1 k⟩
def sp_Form_need_least : Sp := fun vs H Q _ => ∃ v F n, vs = [v, .int n] ∧ FmAt K H v F ∧ F.least ≤ n ∧ Q .non H
theorem ok_Form_need_least (T : Tx w K mg) : FnR P w K mg base CX0 3 (He.ma K (He.ga K "Form") "need_least") (sp_Form_need_least (K := K)) := by
  refine mkR T.d_Form_need_least sc_Form_need_least (fun _ _ _ _ _ _ us hl => match us, hl with | [_, _], _ => rfl) (fun vs H Q E h => ?_) (fun cdv A outer s H vs Q E hr h => ?_)
  · obtain ⟨v, F, n, rfl, _⟩ := h
    rfl
  · obtain ⟨v, F, n, rfl, hF, hn, k⟩ := h
    have hF' := hF
    obtain ⟨q, dx, va, vb, rfl, hq, _, _⟩ := hF
    refine ⟨_, (pss_one (ps_if (pt_cmpR op_lt (pv 1) (c_prop (pv 0) T.cl_Form T.pr_Form_least (ok_Form_least T) (hr.mono (by decide))) (nomark _)) pss_never pss_nil)), ?_⟩
    refine ⟨_, rfl, _, rfl, q, dx, _, rfl, hq, _, F, rfl, hF', _, _, rfl, rfl, _, rfl, ?_⟩
    rw [decide_eq_false (by omega)]
    exact iteF k
def sp_Form_listed : Sp := fun vs H Q _ => ∃ v F n, vs = [v, .int n] ∧ FmAt K H v F ∧ F.least ≤ n ∧ 0 ≤ n ∧ n ≤ 1000 ∧ ∀ q xs H', Ex H H' → H' q = some (.lst xs) → Paired (PairAt H') xs ((List.range n.toNat).map fun (i : Nat) => F.sent n (i : Int)) → Q (.ref q) H'
theorem ok_Form_listed (T : Tx w K mg) : FnR P w K mg base CX0 4 (He.ma K (He.ga K "Form") "listed") (sp_Form_listed (K := K)) := by
  refine mkR T.d_Form_listed sc_Form_listed (fun _ _ _ _ _ _ us hl => match us, hl with | [_, _], _ => rfl) (fun vs H Q E h => ?_) (fun cdv A outer s H vs Q E hr h => ?_)
  · obtain ⟨v, F, n, rfl, _⟩ := h
    rfl
  · obtain ⟨v, F, n, rfl, hF, hl, hn, hn2, k⟩ := h
    have hF' := hF
    obtain ⟨q, dx, va, vb, rfl, hq, _, _⟩ := hF
    refine ⟨_, (pss_cons (ps_expr (c_call (ok_need_size T) (hr.mono (by decide)) (by rfl) T.g_need_size (kp_of T.d_need_size) (pa_cons (pv 1) pa_nil))) (pss_cons (ps_expr (c_meth (pv 0) T.cl_Form T.me_Form_need_least (ok_Form_need_least T) (hr.mono (by decide)) (pa_cons (pv 1) pa_nil))) (pss_cons (ps_expr (c_call (ok_need_played T) (hr.mono (by decide)) (by rfl) T.g_need_played (kp_of T.d_need_played) (pa_cons (pv 1) pa_nil))) (pss_one (ps_ret (pe_lc (own := [("place", 2)]) (g := gName 2) (by rfl) sc_Form_listed.nd (pi_range1 (by rfl) T.f_range (pa_cons (pv 1) pa_nil)) (blkOk_by (own := [("place", 2)]) (N := n_Form_listed) (sc := defScope s_Form_listed) (by decide +kernel)) (fun _ _ _ _ _ => (pg_name (i := 2) sc_Form_listed.nd rfl (Or.inl rfl))) (fun _ _ _ _ _ => pts_nil) (fun _ _ _ _ _ => (c_meth (pv 0) T.cl_Form T.me_Form_sent (ok_Form_sent T) (hr.mono (by decide)) (pa_cons (pv 1) (pa_cons (pv 2) pa_nil)))))))))), ?_⟩
    refine ⟨_, rfl, _, rfl, hn, by omega, _, rfl, q, dx, _, rfl, hq, fm_no (by decide +kernel) (by decide +kernel) (by decide +kernel) (by decide +kernel), _, rfl, _, F, n, rfl, hF', hl, _, rfl, _, rfl, hn2, ?_⟩
    refine ⟨_, rfl, _, rfl, by omega, by omega, fun D hD => lcR (walk_range (lo := 0) (n := n.toNat)) hD (by omega) PairAt (fun (i : Nat) => F.sent n (i : Int)) (fun _ _ _ _ e h => h.n e) (fun _ _ => trivial) (fun i x H3 H4 kk hi e3 y kq => ?_) (fun acc H3 e3 ha hacc => k D acc H3 e3 ha hacc)⟩
    obtain ⟨rfl, rfl⟩ := y
    refine ⟨rfl, _, rfl, q, dx, _, rfl, e3 _ _ hq, fm_no (by decide +kernel) (by decide +kernel) (by decide +kernel) (by decide +kernel), _, rfl, _, rfl, _, F, n, _, rfl, hF'.mono e3.n, by omega, by omega, fun v' H5 e5 hv => kq _ _ e5 ?_⟩
    rw [Int.zero_add] at hv
    exact hv
def sp_Form_reached : Sp := fun vs H Q _ => ∃ v u F G, vs = [v, u] ∧ FmAt K H v F ∧ FmAt K H u G ∧ ∀ q H', Ex H H' → H' q = some (.tup [.int (F.reached G).1, .int (F.reached G).2]) → Q (.ref q) H'
theorem ok_Form_reached (T : Tx w K mg) : FnR P w K mg base CX0 1 (He.ma K (He.ga K "Form") "reached") (sp_Form_reached (K := K)) := by
  refine mkR T.d_Form_reached sc_Form_reached (fun _ _ _ _ _ _ us hl => match us, hl with | [_, _], _ => rfl) (fun vs H Q E h => ?_) (fun cdv A outer s H vs Q E hr h => ?_)
  · obtain ⟨v, u, F, G, rfl, _⟩ := h
    rfl
  · obtain ⟨v, u, F, G, rfl, ⟨q, dx, _, _, rfl, hq, ⟨a, xs, rfl, ha, hx⟩, ⟨b, ys, rfl, hb, hy⟩⟩, ⟨q', dx', _, _, rfl, hq', ⟨a', xs', rfl, ha', hx'⟩, ⟨b', ys', rfl, hb', hy'⟩⟩, k⟩ := h
    have lx := paired_len hx
    have ly := paired_len hy
    have lx' := paired_len hx'
    have ly' := paired_len hy'
    unfold Fm.reached at k
    refine ⟨_, (pss_cons (ps_par (i := 2) (j := 3) (by rfl) sc_Form_reached.nd rfl rfl (by decide) rfl rfl (pa_cons (pe_op op_sub (pe_callB call_len_seq (by rfl) T.f_len (by decide +kernel) (pa_cons (pe_fld (pv 1) rfl) pa_nil)) (pe_fld (pv 0) rfl)) (pa_cons (pe_op op_add (pe_callB call_len_seq (by rfl) T.f_len (by decide +kernel) (pa_cons (pe_fld (pv 1) rfl) pa_nil)) (pe_fld (pv 0) rfl)) pa_nil)) (by rfl)) (pss_cons (ps_if (pt_val (pe_fld (pv 0) rfl)) (pss_one (ps_par (i := 2) (j := 3) (by rfl) sc_Form_reached.nd rfl rfl (by decide) rfl rfl (pa_cons (pv 3) (pa_cons (pv 2) pa_nil)) (by rfl))) pss_nil) (pss_one (ps_ret (pe_tup (pa_cons (pe_callB (call_max2 rfl) (by rfl) T.f_max (by decide +kernel) (pa_cons (pe_callB call_len_seq (by rfl) T.f_len (by decide +kernel) (pa_cons (pe_fld (pv 0) rfl) pa_nil)) (pa_cons (pv 2) pa_nil))) (pa_cons (pe_callB (call_max2 rfl) (by rfl) T.f_max (by decide +kernel) (pa_cons (pe_callB call_len_seq (by rfl) T.f_len (by decide +kernel) (pa_cons (pe_fld (pv 0) rfl) pa_nil)) (pa_cons (pv 3) pa_nil))) pa_nil))))))), ?_⟩
    refine ⟨_, rfl, q', _, dx', _, _, rfl, hq', T.cl_Form, T.no_Form_first, fm_first, a', xs', rfl, .inr (SqT.of ha'), _, rfl, q, _, dx, _, _, rfl, hq, T.cl_Form, T.no_Form_moved_by, fm_moved, _, _, rfl, rfl, ?_⟩
    refine ⟨_, rfl, q', _, dx', _, _, rfl, hq', T.cl_Form, T.no_Form_last, fm_last, b', ys', rfl, .inr (SqT.of hb'), _, rfl, q, _, dx, _, _, rfl, hq, T.cl_Form, T.no_Form_moved_by, fm_moved, _, _, rfl, rfl, _, _, rfl, ?_⟩
    refine ⟨_, rfl, q, _, dx, _, _, rfl, hq, T.cl_Form, T.no_Form_faced, fm_faced, _, rfl, ?_⟩
    rw [lx', ly']
    cases hf : F.turned with
    | true =>
      rw [if_pos hf] at k
      refine iteT ⟨_, rfl, _, rfl, _, _, rfl, ?_⟩
      refine ⟨_, rfl, q, _, dx, _, _, rfl, hq, T.cl_Form, T.no_Form_first, fm_first, a, xs, rfl, .inr (SqT.of ha), _, rfl, _, _, rfl, ?_⟩
      refine ⟨_, rfl, q, _, dx, _, _, rfl, hq, T.cl_Form, T.no_Form_last, fm_last, b, ys, rfl, .inr (SqT.of hb), _, rfl, _, _, rfl, (by show 2 ≤ sizeLine; decide), fun r hr1 => ?_⟩
      rw [lx, ly]
      exact k r _ (Ex.new hr1) upd_same
    | false =>
      rw [hf, if_neg Bool.false_ne_true] at k
      refine iteF ?_
      refine ⟨_, rfl, q, _, dx, _, _, rfl, hq, T.cl_Form, T.no_Form_first, fm_first, a, xs, rfl, .inr (SqT.of ha), _, rfl, _, _, rfl, ?_⟩
      refine ⟨_, rfl, q, _, dx, _, _, rfl, hq, T.cl_Form, T.no_Form_last, fm_last, b, ys, rfl, .inr (SqT.of hb), _, rfl, _, _, rfl, (by show 2 ≤ sizeLine; decide), fun r hr1 => ?_⟩
      rw [lx, ly]
      exact k r _ (Ex.new hr1) upd_same
def sp_Form_followed : Sp := fun vs H Q _ => ∃ v u F G e d, vs = [v, u, .str (endS e), .int d] ∧ FmAt K H v F ∧ FmAt K H u G ∧ 0 ≤ d ∧ 0 ≤ (F.entry e d).d ∧ ∀ y H', Ex H H' → EntAt H' y (F.followed G e d) → Q y H'
theorem ok_Form_followed (T : Tx w K mg) : FnR P w K mg base CX0 3 (He.ma K (He.ga K "Form") "followed") (sp_Form_followed (K := K)) := by
  refine mkR T.d_Form_followed sc_Form_followed (fun _ _ _ _ _ _ us hl => match us, hl with | [_, _, _, _], _ => rfl) (fun vs H Q E h => ?_) (fun cdv A outer s H vs Q E hr h => ?_)
  · obtain ⟨v, u, F, G, e, d, rfl, _⟩ := h
    rfl
  · obtain ⟨v, u, F, G, e, d, rfl, hF, hG, hd, hd2, k⟩ := h
    have hF' := hF
    have hG' := hG
    obtain ⟨q, dx, va, vb, rfl, hq, _, _⟩ := hF
    obtain ⟨q', dx', va', vb', rfl, hq', _, _⟩ := hG
    refine ⟨_, (pss_cons (ps_set (i := 4) sc_Form_followed.nd rfl (Or.inl rfl) (c_meth (pv 0) T.cl_Form T.me_Form_entry (ok_Form_entry T) (hr.mono (by decide)) (pa_cons (pv 2) (pa_cons (pv 3) pa_nil)))) (pss_cons (ps_set (i := 5) sc_Form_followed.nd rfl (Or.inl rfl) (c_meth (pv 1) T.cl_Form T.me_Form_entry (ok_Form_entry T) (hr.mono (by decide)) (pa_cons (pe_ix ix_tup (pv 4) pe_int (fun _ _ => rfl)) (pa_cons (pe_ix ix_tup (pv 4) pe_int (fun _ _ => rfl)) pa_nil)))) (pss_one (ps_ret (pe_tup (pa_cons (pe_ix ix_tup (pv 5) pe_int (fun _ _ => rfl)) (pa_cons (pe_ix ix_tup (pv 5) pe_int (fun _ _ => rfl)) (pa_cons (pe_cmpR op_ne (pe_ix ix_tup (pv 4) pe_int (fun _ _ => rfl)) (pe_ix ix_tup (pv 5) pe_int (fun _ _ => rfl)) (nomark _)) pa_nil)))))))), ?_⟩
    refine ⟨_, rfl, q, dx, _, rfl, hq, fm_no (by decide +kernel) (by decide +kernel) (by decide +kernel) (by decide +kernel), _, rfl, _, rfl, _, F, e, d, rfl, hF', hd, fun y1 H1 e1 h1 => ?_⟩
    obtain ⟨r, rfl, hr1⟩ := h1
    refine ⟨_, rfl, q', dx', _, rfl, e1 _ _ hq', fm_no (by decide +kernel) (by decide +kernel) (by decide +kernel) (by decide +kernel), _, rfl, r, _, 0, _, rfl, rfl, SqT.of hr1, atI_nat (j := 0) rfl, _, rfl, r, _, 1, _, rfl, rfl, SqT.of hr1, atI_nat (j := 1) rfl, _, G, _, _, rfl, hG'.mono e1.n, hd2, fun y2 H2 e2 h2 => ?_⟩
    obtain ⟨r2, rfl, hr2⟩ := h2
    have hr1' := e2 _ _ hr1
    refine ⟨_, rfl, r2, _, 0, _, rfl, rfl, SqT.of hr2, atI_nat (j := 0) rfl, _, rfl, r2, _, 1, _, rfl, rfl, SqT.of hr2, atI_nat (j := 1) rfl, _, rfl, r, _, 2, _, rfl, rfl, SqT.of hr1', atI_nat (j := 2) rfl, _, rfl, r2, _, 2, _, rfl, rfl, SqT.of hr2, atI_nat (j := 2) rfl, rfl, (by show 3 ≤ sizeLine; decide), fun p3 n3 => k _ _ ((e1.trans e2).trans (Ex.new n3)) ⟨p3, rfl, ?_⟩⟩
    rw [upd_same, ne_bl] <;> rfl
end
end Pp

set_option Elab.async false
set_option linter.all false
set_option maxRecDepth 100000
set_option maxHeartbeats 4000000
/-! forms of words -/
namespace Pp
open PySem PySem.Spec PyProof.Rows L2
/-- a product that the class takes -/
structure MulOk (F G : Fm) : Prop where
  r1 : (F.reached G).1 ≤ 400
  r2 : (F.reached G).2 ≤ 400
  n1 : 0 ≤ (F.reached G).1
  n2 : 0 ≤ (F.reached G).2
  deep : ∀ e d, 0 ≤ d → d < 400 → 0 ≤ (F.entry e d).d
  parts : (F.mulR G).Parts
structure StepOk (F : Fm) (m : Mv) : Prop where
  la : (partsF m).top.length ≤ 400
  lb : (partsF m).bottom.length ≤ 400
  parts : (partsF m).Parts
  mul : MulOk F (partsF m).trim
def Chain : Fm → List Mv → Prop
  | _, [] => True
  | F, m :: r => StepOk F m ∧ Chain ((F.mulR (partsF m).trim).trim) r
theorem trimF_len (t : Bool) (s : Int) (e : Bool) (tab : List Ent) : (trimF t s e tab).length ≤ tab.length := by
  unfold trimF
  rw [List.length_take]
  exact Nat.min_le_right _ _
section
variable {P : Program} {w : World} {K : PySem.W.Frag} {mg : Str → Option Value} {base : Heap}
theorem TbAt.es {H : Hp} {v : V} {L : List Ent} (h : TbAt H v L) : EsAt H v L := let ⟨p, vs, h1, h2, h3⟩ := h; ⟨p, vs, h1, .inr h2, h3⟩
theorem ne_blD {a b : Bool} : V.bl (!decide (V.bl a = V.bl b)) = V.bl (a != b) := by rw [ne_bl]
def sp_Form_mul : Sp := fun vs H Q _ => ∃ v u F G, vs = [v, u] ∧ FmAt K H v F ∧ FmAt K H u G ∧ MulOk F G ∧ ∀ q H', Ex H H' → FmAt K H' (.ref q) (F.mulR G).trim → Q (.ref q) H'
theorem ok_Form_mul (T : Tx w K mg) : FnR P w K mg base CX0 5 (He.ma K (He.ga K "Form") "__mul__") (sp_Form_mul (K := K)) := by
  refine mkR T.d_Form_mul sc_Form_mul (fun _ _ _ _ _ _ us hl => match us, hl with | [_, _], _ => rfl) (fun vs H Q E h => ?_) (fun cdv A outer s H vs Q E hr h => ?_)
  · obtain ⟨v, u, F, G, rfl, _⟩ := h
    rfl
  · obtain ⟨v, u, F, G, rfl, hF, hG, ok, k⟩ := h
    have hF' := hF
    have hG' := hG
    obtain ⟨q, dx, va, vb, rfl, hq, _, _⟩ := hF
    obtain ⟨q', dx', va', vb', rfl, hq', _, _⟩ := hG
    have o1 := ok.r1
    have o2 := ok.r2
    have o3 := ok.n1
    have o4 := ok.n2
    refine ⟨_, (pss_cons (ps_asg (c_meth (pv 0) T.cl_Form T.me_Form_reached (ok_Form_reached T) (hr.mono (by decide)) (pa_cons (pv 1) pa_nil)) (pg_tup (by rfl) (pgs_cons (pg_name (i := 2) sc_Form_mul.nd rfl (Or.inl rfl)) (pgs_cons (pg_name (i := 3) sc_Form_mul.nd rfl (Or.inl rfl)) pgs_nil)))) (pss_cons (ps_set (i := 4) sc_Form_mul.nd rfl (Or.inl rfl) (pe_cmpR op_ne (pe_fld (pv 0) rfl) (pe_fld (pv 1) rfl) (nomark _))) (pss_cons (ps_set (i := 5) sc_Form_mul.nd rfl (Or.inl rfl) (pe_op op_add (pe_fld (pv 1) rfl) (pe_ifExp (pt_val (pe_fld (pv 1) rfl)) (pe_un un_neg (pe_fld (pv 0) rfl)) (pe_fld (pv 0) rfl)))) (pss_cons (ps_set (i := 6) sc_Form_mul.nd rfl (Or.inl rfl) (c_call (ok_trimmed T) (hr.mono (by decide)) (by rfl) T.g_trimmed (kp_of T.d_trimmed) (pa_cons (pv 4) (pa_cons (pv 5) (pa_cons pe_str (pa_cons (pe_lc (own := [("depth", 8)]) (g := gName 8) (by rfl) sc_Form_mul.nd (pi_range1 (by rfl) T.f_range (pa_cons (pv 2) pa_nil)) (blkOk_by (own := [("depth", 8)]) (N := n_Form_mul) (sc := defScope s_Form_mul) (by decide +kernel)) (fun _ _ _ _ _ => (pg_name (i := 8) sc_Form_mul.nd rfl (Or.inl rfl))) (fun _ _ _ _ _ => pts_nil) (fun _ _ _ _ _ => (c_meth (pv 0) T.cl_Form T.me_Form_followed (ok_Form_followed T) (hr.mono (by decide)) (pa_cons (pv 1) (pa_cons pe_str (pa_cons (pv 8) pa_nil)))))) pa_nil)))))) (pss_cons (ps_set (i := 7) sc_Form_mul.nd rfl (Or.inl rfl) (c_call (ok_trimmed T) (hr.mono (by decide)) (by rfl) T.g_trimmed (kp_of T.d_trimmed) (pa_cons (pv 4) (pa_cons (pv 5) (pa_cons pe_str (pa_cons (pe_lc (own := [("depth", 8)]) (g := gName 8) (by rfl) sc_Form_mul.nd (pi_range1 (by rfl) T.f_range (pa_cons (pv 3) pa_nil)) (blkOk_by (own := [("depth", 8)]) (N := n_Form_mul) (sc := defScope s_Form_mul) (by decide +kernel)) (fun _ _ _ _ _ => (pg_name (i := 8) sc_Form_mul.nd rfl (Or.inl rfl))) (fun _ _ _ _ _ => pts_nil) (fun _ _ _ _ _ => (c_meth (pv 0) T.cl_Form T.me_Form_followed (ok_Form_followed T) (hr.mono (by decide)) (pa_cons (pv 1) (pa_cons pe_str (pa_cons (pv 8) pa_nil)))))) pa_nil)))))) (pss_one (ps_ret (StX.pe_makeR T.mk_Form (ok_Form_init T) (hr.mono (by decide)) (by rfl) T.g_Form pass0 (pa_cons (pv 4) (pa_cons (pv 5) (pa_cons (pv 6) (pa_cons (pv 7) pa_nil)))))))))))), ?_⟩
    refine ⟨_, rfl, q, dx, _, rfl, hq, fm_no (by decide +kernel) (by decide +kernel) (by decide +kernel) (by decide +kernel), _, rfl, _, _, F, G, rfl, hF', hG', fun r H1 e1 h1 => ?_⟩
    refine ⟨r, _, rfl, SqT.of h1, rfl, _, _, rfl, _, _, rfl, rfl, ?_⟩
    refine ⟨_, rfl, q, _, dx, _, _, rfl, e1 _ _ hq, T.cl_Form, T.no_Form_faced, fm_faced, _, rfl, q', _, dx', _, _, rfl, e1 _ _ hq', T.cl_Form, T.no_Form_faced, fm_faced, rfl, ?_⟩
    show gName 4 (V.bl (!decide (V.bl F.turned = V.bl G.turned))) _ _ _
    rw [ne_bl]
    have mid : ∀ (sh : Int) (D : Ends), D.rt = Q → sh = G.shift + (if G.turned = true then -F.shift else F.shift) →
      tSeq (tAsg (tCl sp_trimmed (tCons (tVar 4) (tCons (tVar 5) (tCons (tC (.str "top")) (tCons (tLc (iRng1 (tCons (tVar 2) tNil)) (gName 8) tYes (tMth (He.ga K "Form") "followed" (sp_Form_followed (K := K)) (tVar 0) (tCons (tVar 1) (tCons (tC (.str "top")) (tCons (tVar 8) tNil)))) [8]) tNil))))) (gName 6))
      (tSeq (tAsg (tCl sp_trimmed (tCons (tVar 4) (tCons (tVar 5) (tCons (tC (.str "bottom")) (tCons (tLc (iRng1 (tCons (tVar 3) tNil)) (gName 8) tYes (tMth (He.ga K "Form") "followed" (sp_Form_followed (K := K)) (tVar 0) (tCons (tVar 1) (tCons (tC (.str "bottom")) (tCons (tVar 8) tNil)))) [8]) tNil))))) (gName 7))
      (tRet (StX.tMakeR (He.ga K "Form") (sp_Form_init (K := K)) E0 (tCons (tVar 4) (tCons (tVar 5) (tCons (tVar 6) (tCons (tVar 7) tNil))))))) D
      [some (.ref q), some (.ref q'), some (.int (F.reached G).1), some (.int (F.reached G).2), some (.bl (F.turned != G.turned)), some (.int sh), none, none, none] H1 := by
      rintro sh D rfl rfl
      have lf1 : (F.follows G true (F.reached G).1).length ≤ 400 := by
        unfold Fm.follows
        rw [List.length_map, List.length_range]
        omega
      have lf2 : (F.follows G false (F.reached G).2).length ≤ 400 := by
        unfold Fm.follows
        rw [List.length_map, List.length_range]
        omega
      refine ⟨_, rfl, _, rfl, _, rfl, _, rfl, by omega, by omega, fun D1 hD1 => lcR (walk_range (lo := 0) (n := (F.reached G).1.toNat)) hD1 (by omega) EntAt (fun (i : Nat) => F.followed G true (i : Int)) (fun _ _ _ _ e h => h.mono e) (fun _ _ => trivial) (fun i x H3 H4 kk hi e3 y kq => ?_) (fun acc1 H2 e2 ha1 hacc1 => ?_)⟩
      · obtain ⟨rfl, rfl⟩ := y
        refine ⟨rfl, _, rfl, q, dx, _, rfl, e3 _ _ (e1 _ _ hq), fm_no (by decide +kernel) (by decide +kernel) (by decide +kernel) (by decide +kernel), _, rfl, _, rfl, _, _, F, G, true, _, rfl, hF'.mono (e1.trans e3).n, hG'.mono (e1.trans e3).n, by omega, ok.deep true _ (by omega) (by omega), fun v' H5 e5 hv => kq _ _ e5 ?_⟩
        rw [Int.zero_add] at hv
        exact hv
      refine ⟨_, _, true, D1, acc1, _, rfl, ha1, hacc1, Nat.le_trans lf1 (by decide), fun vt H3 e3 ht => ?_⟩
      have e03 := (e1.trans e2).trans e3
      refine ⟨_, rfl, _, rfl, _, rfl, _, rfl, by omega, by omega, fun D2 hD2 => lcR (walk_range (lo := 0) (n := (F.reached G).2.toNat)) hD2 (by omega) EntAt (fun (i : Nat) => F.followed G false (i : Int)) (fun _ _ _ _ e h => h.mono e) (fun _ _ => trivial) (fun i x H4 H5 kk hi e4 y kq => ?_) (fun acc2 H4 e4 ha2 hacc2 => ?_)⟩
      · obtain ⟨rfl, rfl⟩ := y
        refine ⟨rfl, _, rfl, q, dx, _, rfl, e4 _ _ (e03 _ _ hq), fm_no (by decide +kernel) (by decide +kernel) (by decide +kernel) (by decide +kernel), _, rfl, _, rfl, _, _, F, G, false, _, rfl, hF'.mono (e03.trans e4).n, hG'.mono (e03.trans e4).n, by omega, ok.deep false _ (by omega) (by omega), fun v' H6 e6 hv => kq _ _ e6 ?_⟩
        rw [Int.zero_add] at hv
        exact hv
      refine ⟨_, _, false, D2, acc2, _, rfl, ha2, hacc2, Nat.le_trans lf2 (by decide), fun vb H5 e5 hb => ?_⟩
      refine ⟨_, rfl, _, rfl, _, rfl, _, rfl, form_made (F := F.mulR G) (ht.mono (e4.trans e5).n).es hb.es (Nat.le_trans (trimF_len _ _ _ _) lf1) (Nat.le_trans (trimF_len _ _ _ _) lf2) ok.parts fun q2 H6 e6 h6 => k q2 H6 ((e03.trans (e4.trans e5)).trans e6) h6⟩
    refine ⟨_, rfl, q', _, dx', _, _, rfl, e1 _ _ hq', T.cl_Form, T.no_Form_moved_by, fm_moved, _, rfl, q', _, dx', _, _, rfl, e1 _ _ hq', T.cl_Form, T.no_Form_faced, fm_faced, _, rfl, ?_⟩
    cases hg : G.turned with
    | true =>
      refine iteT ⟨_, rfl, q, _, dx, _, _, rfl, e1 _ _ hq, T.cl_Form, T.no_Form_moved_by, fm_moved, _, rfl, _, _, rfl, rfl, ?_⟩
      rw [hg] at mid
      exact mid _ _ rfl (by rw [if_pos rfl])
    | false =>
      refine iteF ⟨_, rfl, q, _, dx, _, _, rfl, e1 _ _ hq, T.cl_Form, T.no_Form_moved_by, fm_moved, _, _, rfl, rfl, ?_⟩
      rw [hg] at mid
      exact mid _ _ rfl (by rw [if_neg Bool.false_ne_true])
def sp_Form_of : Sp := fun vs H Q _ => ∃ a xs ws, vs = [.ref (He.ga K "Form"), .ref a] ∧ H a = some (.lst xs) ∧ MvsAt H xs ws ∧ (∀ m ∈ ws, m.ok) ∧ ws.length ≤ 40 ∧ Chain stillF ws ∧ ∀ q H', Ex H H' → FmAt K H' (.ref q) (formF ws) → Q (.ref q) H'
theorem ok_Form_of (T : Tx w K mg) : FnR P w K mg base CX0 6 (He5.wf K (He.ga K "Form") "classmethod" "of") (sp_Form_of (K := K)) := by
  refine mkR T.d_Form_of sc_Form_of (fun _ _ _ _ _ _ us hl => match us, hl with | [_, _], _ => rfl) (fun vs H Q E h => ?_) (fun cdv A outer s H vs Q E hr h => ?_)
  · obtain ⟨a, xs, ws, rfl, _⟩ := h
    rfl
  · obtain ⟨a, xs, ws, rfl, ha, hm, ok, hl, hC, k⟩ := h
    have hlen := paired_len hm
    refine ⟨_, (pss_cons (ps_for PassesOwn.never rfl (pi_enum (by rfl) T.f_enumerate (pa_cons (pv 1) pa_nil)) (pg_tup (by rfl) (pgs_cons (pg_name (i := 2) sc_Form_of.nd rfl (Or.inl rfl)) (pgs_cons (pg_name (i := 3) sc_Form_of.nd rfl (Or.inl rfl)) pgs_nil))) (pss_one (ps_if (pt_not (pt_val (c_call (ok_is_move T) (hr.mono (by decide)) (by rfl) T.g_is_move (kp_of T.d_is_move) (pa_cons (pv 3) pa_nil)))) pss_never pss_nil))) (pss_cons (ps_set (i := 4) sc_Form_of.nd rfl (Or.inl rfl) (pe_smeth0 (pv 0) (cread_of T) (smet_still T) (ok_Form_still T) (hr.mono (by decide)) pass0)) (pss_cons (ps_for PassesOwn.never rfl (pi_list (pv 1)) (pg_name (i := 3) sc_Form_of.nd rfl (Or.inl rfl)) (pss_cons (ps_asg (c_call (ok_move_parts T) (hr.mono (by decide)) (by rfl) T.g_move_parts (kp_of T.d_move_parts) (pa_cons (pv 3) pa_nil)) (pg_tup (by rfl) (pgs_cons (pg_name (i := 5) sc_Form_of.nd rfl (Or.inl rfl)) (pgs_cons (pg_name (i := 6) sc_Form_of.nd rfl (Or.inl rfl)) (pgs_cons (pg_name (i := 7) sc_Form_of.nd rfl (Or.inl rfl)) (pgs_cons (pg_name (i := 8) sc_Form_of.nd rfl (Or.inl rfl)) pgs_nil)))))) (pss_one (ps_set (i := 4) sc_Form_of.nd rfl (Or.inl rfl) (pe_op (op_binOwn (op := .Mult) ⟨T.self_Form, T.me_Form_mul.at_, T.me_Form_mul.fn⟩ (ok_Form_mul T) (hr.mono (by decide)) pass0) (pv 4) (StX.pe_makeR T.mk_Form (ok_Form_init T) (hr.mono (by decide)) (by rfl) T.g_Form pass0 (pa_cons (pv 5) (pa_cons (pv 6) (pa_cons (pv 7) (pa_cons (pv 8) pa_nil)))))))))) (pss_one (ps_ret (pv 4)))))), ?_⟩
    refine ⟨_, rfl, a, xs, rfl, SqL.of ha, for_it (walk_enum (K := K) (a := a) (xs := xs)) (fun i σ H' => Ex H H' ∧ ∃ b c, σ = [some (V.ref (He.ga K "Form")), some (V.ref a), b, c, none, none, none, none, none]) ⟨Ex.refl _, _, _, rfl⟩ (fun i σ H' _ h => SqL.of (h.1 _ _ ha)) (fun i y σ H3 H4 hi hP hy => ?_) (fun σ H3 hP => ?_)⟩
    · obtain ⟨e3, b, c, rfl⟩ := hP
      obtain ⟨tp, u, v, rfl, nt, rfl, hu, hv⟩ := hy
      obtain ⟨m, hm1, hm2⟩ := mvs_get hm hv
      have e4 := e3.trans (Ex.new nt (o := .tup [u, v]))
      refine ⟨tp, _, rfl, SqT.of upd_same, rfl, _, _, rfl, _, _, rfl, rfl, ?_⟩
      refine ⟨_, rfl, _, m, rfl, hm2.mono e4.n, ok m (List.mem_of_getElem? hm1), fun H5 e5 => ⟨_, rfl, ?_⟩⟩
      exact iteF ⟨e4.trans e5, _, _, rfl⟩
    · obtain ⟨e3, b, c, rfl⟩ := hP
      refine ⟨_, rfl, rfl, rfl, fun q0 H4 e4 h0 => ?_⟩
      have e04 := e3.trans e4
      refine ⟨_, rfl, a, rfl, ⟨xs, SqL.of (e04 _ _ ha)⟩, for_it (walk_list (K := K) (a := a) (xs := xs)) (fun i σ H' => Ex H H' ∧ ∃ b c q F t1 t2 t3 t4, σ = [some (V.ref (He.ga K "Form")), some (V.ref a), b, c, some (.ref q), t1, t2, t3, t4] ∧ FmAt K H' (.ref q) F ∧ Chain F (ws.drop i) ∧ formL (ws.drop i) F = formF ws)
        ⟨e04, _, _, q0, stillF, _, _, _, _, rfl, h0, hC, rfl⟩ (fun i σ H' _ h => SqL.of (h.1 _ _ ha)) (fun i y σ H5 H6 hi hP hy => ?_) (fun σ H5 hP => ?_)⟩
      · obtain ⟨e5, b, c, q, F, t1, t2, t3, t4, rfl, hF, hC2, hL⟩ := hP
        obtain ⟨rfl, hy⟩ := hy
        obtain ⟨m, hm1, hm2⟩ := mvs_get hm hy
        have hlt : i < ws.length := by omega
        have hw : ws[i] = m := by
          rw [List.getElem?_eq_getElem hlt] at hm1
          exact Option.some.inj hm1
        rw [List.drop_eq_getElem_cons hlt, hw] at hC2 hL
        obtain ⟨st, hC3⟩ := hC2
        have mok := ok m (List.mem_of_getElem? hm1)
        have dep := Mv.depth_le (m := m) mok
        refine ⟨_, rfl, _, m, rfl, hm2.mono e5.n, by omega, by omega, fun p la lb xa xb H7 e7 hp h1 h2 h3 h4 => ?_⟩
        refine ⟨p, _, rfl, SqT.of hp, rfl, _, _, rfl, _, _, rfl, _, _, rfl, _, _, rfl, rfl, ?_⟩
        refine ⟨_, rfl, _, rfl, _, rfl, _, rfl, _, rfl, form_made (F := partsF m) ⟨la, xa, rfl, .inl h1, h2⟩ ⟨lb, xb, rfl, .inl h3, h4⟩ st.la st.lb st.parts fun q2 H8 e8 h8 => ?_⟩
        have hF8 := hF.mono (e7.trans e8).n
        have h8' := h8
        obtain ⟨q1, dx1, va1, vb1, eq1, hq1, r1⟩ := hF.mono (e7.trans e8).n
        obtain ⟨q3, dx3, va3, vb3, eq3, hq3, r3⟩ := h8
        refine ⟨q1, dx1, _, q3, dx3, _, eq1, eq3, hq1, hq3, _, _, F, _, rfl, hF8, h8', st.mul, fun q9 H9 e9 h9 => ⟨⟨_, rfl⟩, ?_⟩⟩
        exact ⟨((e5.trans e7).trans e8).trans e9, _, _, q9, _, _, _, _, _, rfl, h9, hC3, hL⟩
      · obtain ⟨e5, b, c, q, F, t1, t2, t3, t4, rfl, hF, hC2, hL⟩ := hP
        rw [hlen, List.drop_length] at hL
        have hL : F = formF ws := hL
        exact ⟨_, rfl, k q H5 e5 (hL ▸ hF)⟩
end
end Pp

set_option Elab.async false
set_option linter.all false
set_option maxRecDepth 100000
set_option maxHeartbeats 4000000
/-! settled -/
namespace Pp
open PySem PySem.Spec PyProof.Rows L2
structure WOk (ws : List Mv) : Prop where
  ok : ∀ m ∈ ws, m.ok
  len : ws.length ≤ 40
  reach : reachF ws ≤ 60
  chain : Chain stillF ws
  least : (formF ws).least ≤ 120
section
variable {P : Program} {w : World} {K : PySem.W.Frag} {mg : Str → Option Value} {base : Heap}
def sp_form_of : Sp := fun vs H Q _ => ∃ v ws, vs = [v] ∧ WdAt K H v ws ∧ WOk ws ∧ ∀ q H', Ex H H' → FmAt K H' (.ref q) (formF ws) → Q (.ref q) H'
theorem ok_form_of (T : Tx w K mg) : FnR P w K mg base CX0 7 (He.ga K "form_of") (sp_form_of (K := K)) := by
  refine mkR T.d_form_of sc_form_of (fun _ _ _ _ _ _ us hl => match us, hl with | [_], _ => rfl) (fun vs H Q E h => ?_) (fun cdv A outer s H vs Q E hr h => ?_)
  · obtain ⟨v, ws, rfl, _⟩ := h
    rfl
  · obtain ⟨v, ws, rfl, hw, W, k⟩ := h
    have hw' := hw
    obtain ⟨p, dx, t, xs, rfl, hp, ht, hm⟩ := hw
    refine ⟨_, (pss_one (ps_ret (ClX.pe_cmeth (pe_glob (by rfl) T.g_Form (v := .ref (He.ga K "Form")) rfl) (cread_of T) (cmet_of T) (ok_Form_of T) (hr.mono (by decide)) pass0 (pa_cons (c_meth0 (pv 0) T.cl_Word T.me_Word_moves (ok_Word_moves T) (hr.mono (by decide))) pa_nil)))), ?_⟩
    exact ⟨rfl, _, rfl, _, _, _, rfl, hp, wd_no (by decide +kernel), _, ws, rfl, hw', fun H1 a ys e1 h1 h2 => ⟨a, ys, ws, rfl, h1, h2, W.ok, W.len, W.chain, fun q H2 e2 h => k q H2 (e1.trans e2) h⟩⟩

def pairD (x : Int × Bool) : PyData := .tuple [.int x.1, .bool x.2]
theorem pair_dp {H : Hp} {v : V} {x : Int × Bool} (h : PairAt H v x) : Dp K H v (pairD x) := by
  obtain ⟨p, rfl, hp⟩ := h
  exact .tup (SqT.of hp) (.cons (.int _) (.cons (.bl _) .nil))
theorem pairs_dp {H : Hp} : ∀ {vs : List V} {l : List (Int × Bool)}, Paired (PairAt H) vs l → DpAll K H vs (l.map pairD)
  | _, _, .nil => .nil
  | _, _, .cons h t => .cons (pair_dp h) (pairs_dp t)
theorem pairs_ok : ∀ (l : List (Int × Bool)), PyData.canLayAll0 (l.map pairD) = true
  | [] => rfl
  | a :: l => by
    rw [List.map_cons, PyData.canLayAll0, pairs_ok l]
    simp [pairD, PyData.canLay0, PyData.canLayAll0]
theorem pairs_depth : ∀ (l : List (Int × Bool)), PyData.depthAll (l.map pairD) ≤ 2
  | [] => by simp [PyData.depthAll]
  | a :: l => by
    have := pairs_depth l
    rw [List.map_cons]
    simp [PyData.depthAll, pairD, PyData.depth]
    omega
theorem pairs_shaped (l : List (Int × Bool)) : SeqAt.shaped (.list (l.map pairD)) = true := by
  show ((PyData.list (l.map pairD)).canLay0 && decide ((PyData.list (l.map pairD)).depth ≤ 64)) = true
  have h1 := pairs_ok l
  have h2 := pairs_depth l
  rw [PyData.canLay0, h1, Bool.true_and, decide_eq_true_eq, PyData.depth]
  omega
def sp_settled : Sp := fun vs H Q _ => ∃ v ws, vs = [v] ∧ WdAt K H v ws ∧ WOk ws ∧ ∀ p q n H', Ex H H' → H' p = some (.tup [.ref q, .int n]) → FmAt K H' (.ref q) (formF ws) → n ≤ 120 → Q (.ref p) H'
theorem reachF_nn : ∀ {ws : List Mv}, (∀ m ∈ ws, m.ok) → 0 ≤ reachF ws
  | [], _ => by decide
  | m :: r, h => by
    have h1 := reachF_nn (ws := r) fun x hx => h x (List.mem_cons_of_mem _ hx)
    have h2 := (Mv.depth_le (h m (List.mem_cons_self))).1
    show 0 ≤ m.depth + reachF r
    omega
theorem ok_settled (T : Tx w K mg) : FnR P w K mg base CX0 8 (He.ga K "settled") (sp_settled (K := K)) := by
  refine mkR T.d_settled sc_settled (fun _ _ _ _ _ _ us hl => match us, hl with | [_], _ => rfl) (fun vs H Q E h => ?_) (fun cdv A outer s H vs Q E hr h => ?_)
  · obtain ⟨v, ws, rfl, _⟩ := h
    rfl
  · obtain ⟨v, ws, rfl, hw, W, k⟩ := h
    have hw' := hw
    obtain ⟨p, dx, t, xs, rfl, hp, ht, hm⟩ := hw
    have r0 := reachF_nn W.ok
    have r1 := W.reach
    have l0 := W.least
    have l1 : 0 ≤ (formF ws).least := by unfold Fm.least; omega
    refine ⟨_, (pss_cons (ps_set (i := 1) sc_settled.nd rfl (Or.inl rfl) (c_call (ok_form_of T) (hr.mono (by decide)) (by rfl) T.g_form_of (kp_of T.d_form_of) (pa_cons (pv 0) pa_nil))) (pss_cons (ps_set (i := 2) sc_settled.nd rfl (Or.inl rfl) (pe_callB (call_max2 rfl) (by rfl) T.f_max (by decide +kernel) (pa_cons (pe_op op_mulW pe_int (c_prop (pv 0) T.cl_Word T.pr_Word_reach (ok_Word_reach T) (hr.mono (by decide)))) (pa_cons (c_prop (pv 1) T.cl_Form T.pr_Form_least (ok_Form_least T) (hr.mono (by decide))) pa_nil)))) (pss_cons (ps_while PassesOwn.never (PW.pt (pw_and (pt_cmpR op_gt (pv 2) (c_prop (pv 1) T.cl_Form T.pr_Form_least (ok_Form_least T) (hr.mono (by decide))) (nomark _)) (pw_and1 (pt_cmpR (op_eqD hr.units) (c_meth (pv 0) T.cl_Word T.me_Word_play (ok_Word_play T) (hr.mono (by decide)) (pa_cons (pe_op op_sub (pv 2) pe_int) pa_nil)) (c_meth (pv 1) T.cl_Form T.me_Form_listed (ok_Form_listed T) (hr.mono (by decide)) (pa_cons (pe_op op_sub (pv 2) pe_int) pa_nil)) (nomark _))))) (pss_one (ps_aug (i := 2) sc_settled.nd rfl (Or.inl rfl) pe_int ip_sub))) (pss_one (ps_ret (pe_tup (pa_cons (pv 1) (pa_cons (pv 2) pa_nil)))))))), ?_⟩
    refine ⟨_, rfl, _, ws, rfl, hw', W, fun q H1 e1 h1 => ?_⟩
    have h1' := h1
    obtain ⟨q', dq, va, vb, eq, hq, hr2⟩ := h1
    cases eq
    refine ⟨_, rfl, p, dx, _, rfl, e1 _ _ hp, _, ws, rfl, hw'.mono e1.n, W.len, fun H2 e2 => ?_⟩
    refine ⟨_, _, rfl, rfl, cmulB2 (by decide) (by omega), _, rfl, q, dq, _, rfl, e2 _ _ hq, _, formF ws, rfl, h1'.mono e2.n, _, _, rfl, ?_⟩
    have stop : ∀ (n : Int) (H' : Hp), Ex H2 H' → n ≤ 120 → tRet (tTup (tCons (tVar 1) (tCons (tVar 2) tNil))) { nx := fun _ H' => Q .non H', rt := Q } [some (.ref p), some (.ref q), some (.int n)] H' := fun n H' e hn =>
      ⟨_, rfl, _, rfl, (by show 2 ≤ sizeLine; decide), fun r hr1 => k r q n _ (((e1.trans e2).trans e).trans (Ex.new hr1)) upd_same (h1'.mono ((e2.trans e).trans (Ex.new hr1)).n) hn⟩
    refine ⟨fun m σ H' => ∃ n : Int, Ex H2 H' ∧ (formF ws).least ≤ n ∧ n ≤ 120 ∧ σ = [some (.ref p), some (.ref q), some (.int n)] ∧ m = (n - (formF ws).least).toNat, ⟨_, _, Ex.refl _, ?_, ?_, rfl, rfl⟩, ?_⟩
    · split <;> omega
    · split <;> omega
    rintro m σ H' ⟨n, ex, hn1, hn2, rfl, rfl⟩
    refine ⟨_, rfl, _, rfl, q, dq, _, rfl, ex _ _ (e2 _ _ hq), _, formF ws, rfl, h1'.mono (e2.trans ex).n, _, _, rfl, rfl, _, rfl, ?_⟩
    by_cases c : (formF ws).least < n
    · rw [decide_eq_true c]
      have ee := (e1.trans e2).trans ex
      refine iteT ⟨_, rfl, p, dx, _, rfl, ee _ _ hp, wd_no (by decide +kernel), _, rfl, _, _, rfl, rfl, _, ws, _, rfl, hw'.mono ee.n, by omega, by omega, fun A1 xs1 H3 e3 a1 p1 => ?_⟩
      refine ⟨_, rfl, q, dq, _, rfl, e3 _ _ (ex _ _ (e2 _ _ hq)), fm_no (by decide +kernel) (by decide +kernel) (by decide +kernel) (by decide +kernel), _, rfl, _, _, rfl, rfl, _, formF ws, _, rfl, h1'.mono ((e2.trans ex).trans e3).n, by omega, by omega, by omega, fun A2 xs2 H4 e4 a2 p2 => ?_⟩
      refine ⟨_, _, .lst (SqL.of (e4 _ _ a1)) (dpAll_mono e4 (pairs_dp p1)), .lst (SqL.of a2) (pairs_dp p2), pairs_shaped _, pairs_shaped _, _, rfl, ?_⟩
      cases PyData.eqv (.list (List.map pairD (List.map (fun (i : Nat) => sentW ws (n - 1) (i : Int)) (List.range (n - 1).toNat)))) (.list (List.map pairD (List.map (fun (i : Nat) => (formF ws).sent (n - 1) (i : Int)) (List.range (n - 1).toNat)))) with
      | true =>
        refine iteT ⟨_, fun _ _ z => z, _, rfl, _, _, rfl, rfl, ?_⟩
        exact ⟨_, (by omega), n - 1, (ex.trans e3).trans e4, by omega, by omega, rfl, rfl⟩
      | false => exact iteF (stop n H4 ((ex.trans e3).trans e4) hn2)
    · rw [decide_eq_false c]
      exact iteF (iteF (stop n H' ex hn2))
end
end Pp

set_option Elab.async false
set_option linter.all false
set_option maxRecDepth 100000
set_option maxHeartbeats 4000000
/-! tracks -/
namespace Pp
open PySem PySem.Spec PyProof.Rows L2
section
variable {P : Program} {w : World} {K : PySem.W.Frag} {mg : Str → Option Value} {base : Heap}
theorem ExX.tt {H H' : Hp} {x C dx : Addr} {fs : List (Str × V)} (hx : H x = some (.ins C dx fs)) (e : ExX x H H') : Tn H H' := fun a xs h => e a _ (fun z => by
  rw [z, hx] at h
  cases h) h
theorem FmAt.px {H H' : Hp} {x C dx : Addr} (hx : H x = some (.ins C dx [])) (e : ExX x H H') {v : V} {F : Fm} (h : FmAt K H v F) : FmAt K H' v F := by
  obtain ⟨p, d, a, b, rfl, hp, ha, hb⟩ := h
  refine ⟨p, d, a, b, rfl, e p _ (fun z => ?_) hp, ha.tt (e.tt hx), hb.tt (e.tt hx)⟩
  rw [z, hx] at hp
  cases hp
theorem WdAt.px {H H' : Hp} {x C dx : Addr} (hx : H x = some (.ins C dx [])) (e : ExX x H H') {v : V} {ws : List Mv} (h : WdAt K H v ws) : WdAt K H' v ws := by
  obtain ⟨p, d, t, vs, rfl, hp, ht, hm⟩ := h
  have hn : ∀ a o, isL o = false → H a = some o → a ≠ x → H' a = some o := fun a o _ h n => e a o n h
  refine ⟨p, d, t, vs, rfl, e p _ (fun z => ?_) hp, e.tt hx _ _ ht, ?_⟩
  · rw [z, hx] at hp
    cases hp
  · -- moves are tuples
    have mm : ∀ {m : Mv} {v : V}, MvAt H v m → MvAt H' v m := by
      have tt := e.tt hx
      have ee : ∀ {a : EP} {v : V}, EpAt H v a → EpAt H' v a := fun h => let ⟨p, h1, h2⟩ := h; ⟨p, h1, tt _ _ h2⟩
      intro m v h
      cases m with
      | swap _ _ => obtain ⟨p, x, y, h1, h2, h3, h4⟩ := h; exact ⟨p, x, y, h1, tt _ _ h2, ee h3, ee h4⟩
      | carry _ _ => obtain ⟨p, x, y, h1, h2, h3, h4⟩ := h; exact ⟨p, x, y, h1, tt _ _ h2, ee h3, ee h4⟩
      | cut _ => obtain ⟨p, h1, h2⟩ := h; exact ⟨p, h1, tt _ _ h2⟩
      | turn _ _ => obtain ⟨p, h1, h2⟩ := h; exact ⟨p, h1, tt _ _ h2⟩
      | over => obtain ⟨p, h1, h2⟩ := h; exact ⟨p, h1, tt _ _ h2⟩
      | face _ => obtain ⟨p, x, h1, h2, h3⟩ := h; exact ⟨p, x, h1, tt _ _ h2, ee h3⟩
    exact Paired.mapP hm fun _ _ q => mm q
def sp_Track_init : Sp := fun vs H Q _ => ∃ x dx v n ws, vs = [V.ref x, v, .int n] ∧ H x = some (.ins (He.ga K "Track") dx []) ∧ WdAt K H v ws ∧ WOk ws ∧ 120 ≤ n ∧
  ∀ H', ExX x H H' → TkAt K H' (.ref x) ws n → Q .non H'
theorem ok_Track_init (T : Tx w K mg) : FnR P w K mg base CX0 9 (He.ma K (He.ga K "Track") "__init__") (sp_Track_init (K := K)) := by
  refine mkR T.d_Track_init sc_Track_init (fun _ _ _ _ _ _ us hl => match us, hl with | [_, _, _], _ => rfl) (fun vs H Q E h => ?_) (fun cdv A outer s H vs Q E hr h => ?_)
  · obtain ⟨x, dx, v, n, ws, rfl, _⟩ := h
    rfl
  · obtain ⟨x, dx, v, n, ws, rfl, hx, hw, W, hn, k⟩ := h
    refine ⟨_, (pss_cons (ps_asg (c_call (ok_settled T) (hr.mono (by decide)) (by rfl) T.g_settled (kp_of T.d_settled) (pa_cons (pv 1) pa_nil)) (pg_tup (by rfl) (pgs_cons (pg_name (i := 3) sc_Track_init.nd rfl (Or.inl rfl)) (pgs_cons (pg_name (i := 4) sc_Track_init.nd rfl (Or.inl rfl)) pgs_nil)))) (pss_cons (ps_fld (pv 0) (pv 1) rfl) (pss_cons (ps_fld (pv 0) (pv 2) rfl) (pss_cons (ps_fld (pv 0) (pv 3) rfl) (pss_cons (ps_fld (pv 0) (pe_cmpR op_ge (pv 2) (pv 4) (nomark _)) rfl) (pss_cons (ps_fld (pv 0) (pe_callB call_len_seq (by rfl) T.f_len (by decide +kernel) (pa_cons (c_meth0 (pv 3) T.cl_Form T.me_Form_top (ok_Form_top T) (hr.mono (by decide))) pa_nil)) rfl) (pss_one (ps_fld (pv 0) (pe_op op_sub (pv 2) (pe_callB call_len_seq (by rfl) T.f_len (by decide +kernel) (pa_cons (c_meth0 (pv 3) T.cl_Form T.me_Form_bottom (ok_Form_bottom T) (hr.mono (by decide))) pa_nil))) rfl)))))))), ?_⟩
    refine ⟨_, rfl, v, ws, rfl, hw, W, fun p q l H1 e1 hp hF hl => ?_⟩
    have x1 := e1 _ _ hx
    have hF' := hF
    obtain ⟨q', dq, va, vb, eq, hq, hab⟩ := hF
    cases eq
    have qx : q ≠ x := fun z => by
      rw [z, x1] at hq
      injection hq with hq
      injection hq with _ _ hq
      cases hq
    refine ⟨p, _, rfl, SqT.of hp, rfl, _, _, rfl, _, _, rfl, rfl, ?_⟩
    refine ⟨_, rfl, _, rfl, x, _, dx, _, rfl, x1, T.cl_Track, T.no_Track_word, (by show 0 < 1000; decide), ?_⟩
    rw [putF_nil]
    refine ⟨_, rfl, _, rfl, x, _, dx, _, rfl, upd_same, T.cl_Track, T.no_Track_size, (by show 1 < 1000; decide), ?_⟩
    rw [putF_ne (by decide +kernel), putF_nil]
    refine ⟨_, rfl, _, rfl, x, _, dx, _, rfl, upd_same, T.cl_Track, T.no_Track_form, (by show 2 < 1000; decide), ?_⟩
    rw [putF_ne (by decide +kernel), putF_ne (by decide +kernel), putF_nil]
    refine ⟨_, rfl, _, rfl, _, _, rfl, rfl, _, rfl, x, _, dx, _, rfl, upd_same, T.cl_Track, T.no_Track_is_great, (by show 3 < 1000; decide), ?_⟩
    rw [putF_ne (by decide +kernel), putF_ne (by decide +kernel), putF_ne (by decide +kernel), putF_nil]
    have eg : (fun i j : Int => V.bl (decide (j ≤ i))) n l = V.bl true := congrArg V.bl (decide_eq_true (by omega))
    rw [eg]
    generalize hh : upd (upd (upd (upd H1 x _) x _) x _) x _ = H4
    have xx : ExX x H1 H4 := by
      rw [← hh]
      exact ((ExX.put.trans ExX.put).trans ExX.put).trans ExX.put
    have x4 : H4 x = some (.ins (He.ga K "Track") dx [("word", v), ("size", .int n), ("form", .ref q), ("is_great", .bl true)]) := by
      rw [← hh]
      exact upd_same
    clear hh
    refine ⟨_, rfl, q, dq, _, rfl, xx q _ qx hq, fm_no (by decide +kernel) (by decide +kernel) (by decide +kernel) (by decide +kernel), _, formF ws, rfl, hF'.px x1 xx, fun l5 ls H5 e5 h5 hl5 => ?_⟩
    refine ⟨l5, ls, rfl, .inl (SqL.of h5), ?_⟩
    rw [hl5]
    refine ⟨_, rfl, x, _, dx, _, rfl, e5 _ _ x4, T.cl_Track, T.no_Track_low, (by show 4 < 1000; decide), ?_⟩
    rw [putF_ne (by decide +kernel), putF_ne (by decide +kernel), putF_ne (by decide +kernel), putF_ne (by decide +kernel), putF_nil]
    generalize hh : upd H5 x _ = H6
    have xx6 : ExX x H1 H6 := by
      rw [← hh]
      exact (xx.trans e5.x).trans ExX.put
    have x6 : H6 x = some (.ins (He.ga K "Track") dx [("word", v), ("size", .int n), ("form", .ref q), ("is_great", .bl true), ("low", .int (formF ws).top.length)]) := by
      rw [← hh]
      exact upd_same
    clear hh
    refine ⟨_, rfl, _, rfl, q, dq, _, rfl, xx6 q _ qx hq, fm_no (by decide +kernel) (by decide +kernel) (by decide +kernel) (by decide +kernel), _, formF ws, rfl, hF'.px x1 xx6, fun l7 ls7 H7 e7 h7 hl7 => ?_⟩
    refine ⟨l7, ls7, rfl, .inl (SqL.of h7), _, _, rfl, rfl, ?_⟩
    rw [hl7]
    refine ⟨_, rfl, x, _, dx, _, rfl, e7 _ _ x6, T.cl_Track, T.no_Track_high, (by show 5 < 1000; decide), ?_⟩
    rw [putF_ne (by decide +kernel), putF_ne (by decide +kernel), putF_ne (by decide +kernel), putF_ne (by decide +kernel), putF_ne (by decide +kernel), putF_nil]
    generalize hh : upd H7 x _ = H8
    have xx8 : ExX x H1 H8 := by
      rw [← hh]
      exact (xx6.trans e7.x).trans ExX.put
    have x8 : H8 x = some (.ins (He.ga K "Track") dx (tkFs v (.ref q) n (formF ws).top.length (n - (formF ws).bottom.length))) := by
      rw [← hh]
      exact upd_same
    clear hh
    exact k H8 (e1.x.trans xx8) ⟨x, dx, v, .ref q, rfl, x8, (hw.mono e1.n).px x1 xx8, hF'.px x1 xx8⟩
theorem track_made {H : Hp} {Q : Addr → Hp → Prop} {E : XK} {v : V} {ws : List Mv} {n : Int} (hw : WdAt K H v ws) (W : WOk ws) (hn : 120 ≤ n) (k : ∀ q H', Ex H H' → TkAt K H' (.ref q) ws n → Q q H') (x dx : Addr) (hx : H x = none) (hd : H dx = none) (hne : dx ≠ x) :
    sp_Track_init (K := K) [V.ref x, v, .int n] (upd (upd H dx (.own x)) x (.ins (He.ga K "Track") dx [])) (fun v H2 => v = .non ∧ Q x H2) E := by
  have e : Ex H (upd (upd H dx (.own x)) x (.ins (He.ga K "Track") dx [])) := (Ex.new hd).trans (Ex.new (by rw [upd_ne (Ne.symm hne)]; exact hx))
  exact ⟨x, dx, v, n, ws, rfl, upd_same, hw.mono e.n, W, hn, fun H' e2 h => ⟨rfl, k x H' (e.thenX hx e2) h⟩⟩
def sp_Track_is_middle : Sp := fun vs H Q _ => ∃ v n p ws, vs = [v, .int p] ∧ TkAt K H v ws n ∧ ∀ H', Ex H H' → Q (.bl ((formF ws).mid n p)) H'
theorem ok_Track_is_middle (T : Tx w K mg) : FnR P w K mg base CX0 3 (He.ma K (He.ga K "Track") "is_middle") (sp_Track_is_middle (K := K)) := by
  refine mkR T.d_Track_is_middle sc_Track_is_middle (fun _ _ _ _ _ _ us hl => match us, hl with | [_, _], _ => rfl) (fun vs H Q E h => ?_) (fun cdv A outer s H vs Q E hr h => ?_)
  · obtain ⟨v, n, p, ws, rfl, _⟩ := h
    rfl
  · obtain ⟨v, n, p, ws, rfl, ⟨x, dx, wd, fm, rfl, hx, hw, hF⟩, k⟩ := h
    have k := k H (Ex.refl H)
    have hF' := hF
    obtain ⟨q, dq, va, vb, rfl, hq, hab⟩ := hF
    refine ⟨_, (pss_one (ps_ret (pe_and (pe_fld (pv 0) rfl) (pe_and (pe_not (c_prop (pe_fld (pv 0) rfl) T.cl_Form T.pr_Form_turned (ok_Form_turned T) (hr.mono (by decide)))) (pe_and (pe_cmpR op_ne (c_prop (pe_fld (pv 0) rfl) T.cl_Form T.pr_Form_shift (ok_Form_shift T) (hr.mono (by decide))) pe_int (nomark _)) (pe_one (pe_chain op_le op_lt (pe_fld (pv 0) rfl) (pv 1) (pe_fld (pv 0) rfl)))))))), ?_⟩
    refine ⟨_, rfl, x, _, dx, _, _, rfl, hx, T.cl_Track, T.no_Track_is_great, tk_great, _, rfl, iteT ?_⟩
    refine ⟨_, rfl, x, _, dx, _, _, rfl, hx, T.cl_Track, T.no_Track_form, tk_form, q, dq, _, rfl, hq, _, formF ws, rfl, hF', ?_⟩
    unfold Fm.mid at k
    refine ⟨_, rfl, _, rfl, ?_⟩
    cases ht : (formF ws).turned with
    | true =>
      rw [ht] at k
      exact iteF k
    | false =>
      rw [ht] at k
      refine iteT ⟨_, rfl, x, _, dx, _, _, rfl, hx, T.cl_Track, T.no_Track_form, tk_form, q, dq, _, rfl, hq, _, formF ws, rfl, hF', rfl, _, rfl, ?_⟩
      by_cases hs : (formF ws).shift = 0
      · rw [decide_eq_true hs] at k
        have e0 : (!decide (V.int (formF ws).shift = V.int 0)) = false := by rw [dec_int, decide_eq_true hs] <;> rfl
        show if (!decide (V.int (formF ws).shift = V.int 0)) = true then _ else Q (.bl false) H
        rw [e0]
        exact iteF k
      · rw [decide_eq_false hs] at k
        have e0 : (!decide (V.int (formF ws).shift = V.int 0)) = true := by rw [dec_int, decide_eq_false hs] <;> rfl
        show if (!decide (V.int (formF ws).shift = V.int 0)) = true then _ else Q (.bl false) H
        rw [e0]
        refine iteT ⟨_, rfl, x, _, dx, _, _, rfl, hx, T.cl_Track, T.no_Track_low, tk_low, _, rfl, _, _, rfl, rfl, _, rfl, ?_⟩
        by_cases h1 : ((formF ws).top.length : Int) ≤ p
        · rw [decide_eq_true h1] at k ⊢
          refine iteT ⟨_, rfl, x, _, dx, _, _, rfl, hx, T.cl_Track, T.no_Track_high, tk_high, _, _, rfl, rfl, ?_⟩
          exact k
        · rw [decide_eq_false h1] at k ⊢
          exact iteF k
def sp_Track_run_length : Sp := fun vs H Q _ => ∃ v n p start ws, vs = [v, .int p, .int start] ∧ TkAt K H v ws n ∧ (formF ws).shift ≠ 0 ∧ (formF ws).shift.natAbs < 1000 ∧ ∀ H', Ex H H' → Q (.int (runF (formF ws) n p start)) H'
theorem ok_Track_run_length (T : Tx w K mg) : FnR P w K mg base CX0 3 (He.ma K (He.ga K "Track") "run_length") (sp_Track_run_length (K := K)) := by
  refine mkR T.d_Track_run_length sc_Track_run_length (fun _ _ _ _ _ _ us hl => match us, hl with | [_, _, _], _ => rfl) (fun vs H Q E h => ?_) (fun cdv A outer s H vs Q E hr h => ?_)
  · obtain ⟨v, n, p, start, ws, rfl, _⟩ := h
    rfl
  · obtain ⟨v, n, p, start, ws, rfl, ⟨x, dx, wd, fm, rfl, hx, hw, hF⟩, hs, hb, k⟩ := h
    have hF' := hF
    obtain ⟨q, dq, va, vb, rfl, hq, hab⟩ := hF
    refine ⟨_, (pss_cons (ps_set (i := 3) sc_Track_run_length.nd rfl (Or.inl rfl) (c_prop (pe_fld (pv 0) rfl) T.cl_Form T.pr_Form_shift (ok_Form_shift T) (hr.mono (by decide)))) (pss_cons (ps_set (i := 4) sc_Track_run_length.nd rfl (Or.inl rfl) (pe_ifExp (pt_cmpR op_gt (pv 3) pe_int (nomark _)) (pe_op op_fdivW (pe_op op_sub (pe_op op_add (pe_op op_sub (pe_fld (pv 0) rfl) (pv 1)) (pv 3)) pe_int) (pv 3)) (pe_op op_add (pe_op op_fdivW (pe_op op_sub (pv 1) (pe_fld (pv 0) rfl)) (pe_un un_neg (pv 3))) pe_int))) (pss_cons (ps_asg (pe_callB call_divmodN (by rfl) T.f_divmod (by decide +kernel) (pa_cons (pe_op op_sub (pv 2) (pv 1)) (pa_cons (pv 3) pa_nil))) (pg_tup (by rfl) (pgs_cons (pg_name (i := 5) sc_Track_run_length.nd rfl (Or.inl rfl)) (pgs_cons (pg_name (i := 6) sc_Track_run_length.nd rfl (Or.inl rfl)) pgs_nil)))) (pss_one (ps_ret (pe_ifExp (PW.pt (pw_and (pt_cmpR op_eq (pv 6) pe_int (nomark _)) (pw_and1 (pt_chain op_lt op_lt pe_int (pv 5) (pv 4))))) (pv 5) (pv 4))))))), ?_⟩
    refine ⟨_, rfl, x, _, dx, _, _, rfl, hx, T.cl_Track, T.no_Track_form, tk_form, q, dq, _, rfl, hq, _, formF ws, rfl, hF', ?_⟩
    unfold runF at k
    generalize (formF ws).shift = sh at *
    have tail : ∀ (c : Int) (D : Ends), D.rt = Q → (∀ H', Ex H H' → Q (.int (if (start - p).fmod sh = 0 ∧ 0 < (start - p).fdiv sh ∧ (start - p).fdiv sh < c then (start - p).fdiv sh else c)) H') →
      tSeq (tAsg (tCB (fun xs H Q => ∃ i j, xs = [V.int i, V.int j] ∧ CDivN i j ∧ ∀ p, H p = none → Q (V.ref p) (upd H p (.tup [.int (i.fdiv j), .int (i.fmod j)]))) (tCons (tOp (rI0 fun i j => .int (i - j)) (tVar 2) (tVar 1)) (tCons (tVar 3) tNil))) (gTup K 2 (gCons (gName 5) (gCons (gName 6) gNil))))
        (tRet (tIf (tAnd (tTest (tOp rEq (tVar 6) (tC (.int 0)))) (tTest (tChain (rI0 fun i j => V.bl (decide (i < j))) (rI0 fun i j => V.bl (decide (i < j))) (tC (.int 0)) (tVar 5) (tVar 4)))) (tVar 5) (tVar 4))) D
        [some (.ref x), some (.int p), some (.int start), some (.int sh), some (.int c), none, none] H := by
      rintro c D rfl k
      refine ⟨_, rfl, _, rfl, _, _, rfl, rfl, _, rfl, _, _, rfl, ⟨hs, by omega⟩, fun r hr1 => ?_⟩
      have e1 := Ex.new hr1 (o := .tup [.int ((start - p).fdiv sh), .int ((start - p).fmod sh)])
      have k := k _ e1
      refine ⟨r, _, rfl, SqT.of upd_same, rfl, _, _, rfl, _, _, rfl, rfl, ?_⟩
      refine ⟨_, rfl, rfl, _, rfl, ?_⟩
      rw [dec_int]
      by_cases c1 : (start - p).fmod sh = 0
      · rw [decide_eq_true c1]
        refine iteT ⟨_, rfl, _, _, rfl, rfl, _, rfl, ?_⟩
        by_cases c2 : 0 < (start - p).fdiv sh
        · rw [decide_eq_true c2]
          refine iteT ⟨_, rfl, _, _, rfl, rfl, _, rfl, ?_⟩
          by_cases c3 : (start - p).fdiv sh < c
          · rw [decide_eq_true c3]
            rw [if_pos ⟨c1, c2, c3⟩] at k
            exact iteT ⟨_, rfl, k⟩
          · rw [decide_eq_false c3]
            rw [if_neg (fun z => c3 z.2.2)] at k
            exact iteF ⟨_, rfl, k⟩
        · rw [decide_eq_false c2]
          rw [if_neg (fun z => c2 z.2.1)] at k
          exact iteF ⟨_, rfl, iteF ⟨_, rfl, k⟩⟩
      · rw [decide_eq_false c1]
        rw [if_neg (fun z => c1 z.1)] at k
        exact iteF (iteF ⟨_, rfl, k⟩)
    refine ⟨_, rfl, _, _, rfl, rfl, _, rfl, ?_⟩
    by_cases c : 0 < sh
    · rw [decide_eq_true c]
      rw [if_pos c] at k
      exact iteT ⟨_, rfl, x, _, dx, _, _, rfl, hx, T.cl_Track, T.no_Track_high, tk_high, _, rfl, _, _, rfl, rfl, _, rfl, _, _, rfl, rfl, _, _, rfl, rfl, _, rfl, _, _, rfl, rfl, cdivB c (Nat.lt_trans hb (by decide +kernel)), tail _ _ rfl k⟩
    · rw [decide_eq_false c]
      rw [if_neg c] at k
      exact iteF ⟨_, rfl, _, rfl, x, _, dx, _, _, rfl, hx, T.cl_Track, T.no_Track_low, tk_low, _, _, rfl, rfl, _, rfl, _, rfl, _, _, rfl, rfl, cdivB (by omega) (Nat.lt_trans (by omega) (show 1000 < big by decide +kernel)), _, _, rfl, rfl, tail _ _ rfl k⟩
end
end Pp

set_option Elab.async false
set_option linter.all false
set_option maxRecDepth 100000
set_option maxHeartbeats 4000000
/-! ways -/
namespace Pp
open PySem PySem.Spec PyProof.Rows L2
structure WayOk (ws : List Mv) (n start : Int) (K : Nat) : Prop where
  back : Back ws n start K
  few : K ≤ 1000
  size : 0 < n
  shift : (formF ws).shift.natAbs < 1000
  run : ∀ j, j < K → (runF (formF ws) n (hereN ws n start j) start).natAbs < big
section
variable {P : Program} {w : World} {K : PySem.W.Frag} {mg : Str → Option Value} {base : Heap}
theorem mid_shift {F : Fm} {n p : Int} (h : F.mid n p = true) : F.shift ≠ 0 := by
  intro z
  unfold Fm.mid at h
  rw [decide_eq_true z] at h
  simp at h
def sp_Track_pieces : Sp := fun vs H Q _ => ∃ v n start ws N, vs = [v, .int start] ∧ TkAt K H v ws n ∧ WayOk ws n start N ∧ ∀ q xs H', Ex H H' → H' q = some (.lst xs) → PcsAt H' xs (wayL ws n start N) → Q (.ref q) H'
theorem ok_Track_pieces (T : Tx w K mg) : FnR P w K mg base CX0 4 (He.ma K (He.ga K "Track") "pieces") (sp_Track_pieces (K := K)) := by
  refine mkR T.d_Track_pieces sc_Track_pieces (fun _ _ _ _ _ _ us hl => match us, hl with | [_, _], _ => rfl) (fun vs H Q E h => ?_) (fun cdv A outer s H vs Q E hr h => ?_)
  · obtain ⟨v, n, start, ws, N, rfl, _⟩ := h
    rfl
  · obtain ⟨v, n, start, ws, N, rfl, hT, W, k⟩ := h
    have hT' := hT
    obtain ⟨x, dx, wd, fm, rfl, hx, hw, hF⟩ := hT
    have hw' := hw
    obtain ⟨wp, wdx, wt, wxs, rfl, hwp, hwt, hwm⟩ := hw
    have hF' := hF
    obtain ⟨q, dq, va, vb, rfl, hq, hab⟩ := hF
    have K0 := W.back.pos
    have K1 := W.few
    refine ⟨_, (pss_cons (ps_par3 (i := 2) (j := 3) (l := 4) (by rfl) sc_Track_pieces.nd rfl rfl rfl (by decide) (by decide) (by decide) rfl rfl rfl (pa_cons (pe_lst pa_nil) (pa_cons (pv 1) (pa_cons pe_bl pa_nil))) (by rfl)) (pss_cons (ps_while PassesOwn.never (pt_not (pt_val (pv 4))) (pss_cons (ps_if (pt_val (c_meth (pv 0) T.cl_Track T.me_Track_is_middle (ok_Track_is_middle T) (hr.mono (by decide)) (pa_cons (pv 3) pa_nil))) (pss_cons (ps_set (i := 5) sc_Track_pieces.nd rfl (Or.inl rfl) (c_meth (pv 0) T.cl_Track T.me_Track_run_length (ok_Track_run_length T) (hr.mono (by decide)) (pa_cons (pv 3) (pa_cons (pv 1) pa_nil)))) (pss_cons (ps_expr (pe_bm PySem.F.plainAttrs_list PySem.F.slot_list_append PySem.F.type_list_append mt_append (pv 2) (pa_cons (pe_tup (pa_cons (pv 3) (pa_cons (c_prop (pe_fld (pv 0) rfl) T.cl_Form T.pr_Form_shift (ok_Form_shift T) (hr.mono (by decide))) (pa_cons (pv 5) (pa_cons pe_bl pa_nil))))) pa_nil))) (pss_one (ps_aug (i := 3) sc_Track_pieces.nd rfl (Or.inl rfl) (pe_op op_mulW (c_prop (pe_fld (pv 0) rfl) T.cl_Form T.pr_Form_shift (ok_Form_shift T) (hr.mono (by decide))) (pv 5)) ip_add)))) (pss_cons (ps_asg (c_meth (pe_fld (pv 0) rfl) T.cl_Word T.me_Word_sent (ok_Word_sent T) (hr.mono (by decide)) (pa_cons (pe_fld (pv 0) rfl) (pa_cons (pv 3) pa_nil))) (pg_tup (by rfl) (pgs_cons (pg_name (i := 6) sc_Track_pieces.nd rfl (Or.inl rfl)) (pgs_cons (pg_name (i := 7) sc_Track_pieces.nd rfl (Or.inl rfl)) pgs_nil)))) (pss_cons (ps_expr (pe_bm PySem.F.plainAttrs_list PySem.F.slot_list_append PySem.F.type_list_append mt_append (pv 2) (pa_cons (pe_tup (pa_cons (pv 3) (pa_cons pe_int (pa_cons pe_int (pa_cons (pv 7) pa_nil))))) pa_nil))) (pss_one (ps_set (i := 3) sc_Track_pieces.nd rfl (Or.inl rfl) (pv 6)))))) (pss_one (ps_set (i := 4) sc_Track_pieces.nd rfl (Or.inl rfl) (pe_cmpR op_eq (pv 3) (pv 1) (nomark _)))))) (pss_one (ps_ret (pv 2))))), ?_⟩
    refine ⟨Nat.zero_le _, fun f n1 => ?_⟩
    generalize hh1 : upd _ f _ = H1; obtain ⟨e1, t1⟩ := upd_facts n1 hh1; clear hh1
    refine ⟨_, rfl, _, _, _, rfl, ?_⟩
    refine ⟨fun m σ H' => ∃ (j : Nat) (acc : List V) (a b c : Option V), Ex H H' ∧ H' f = some (.lst acc) ∧ PcsAt H' acc ((List.range j).map (pcN ws n start)) ∧ m = N - j ∧ j ≤ N ∧
      σ = [some (.ref x), some (.int start), some (.ref f), some (.int (hereN ws n start j)), some (.bl (decide (j = N))), a, b, c], ⟨_, 0, [], none, none, none, e1, t1, .nil, rfl, Nat.zero_le _, ?_⟩, ?_⟩
    · rw [decide_eq_false (show ¬ 0 = N by omega)] <;> rfl
    rintro m σ H' ⟨j, acc, a, b, c, ex, hf, hacc, rfl, hj, rfl⟩
    refine ⟨_, rfl, _, rfl, ?_⟩
    by_cases hjN : j = N
    · rw [decide_eq_true hjN]
      refine iteF ⟨_, rfl, ?_⟩
      rw [hjN] at hacc
      exact k f acc H' ex hf hacc
    · rw [decide_eq_false hjN]
      refine iteT ⟨_, fun _ _ z => z, ?_⟩
      refine ⟨_, rfl, x, dx, _, rfl, ex _ _ hx, tk_no (by decide +kernel) (by decide +kernel) (by decide +kernel) (by decide +kernel) (by decide +kernel) (by decide +kernel), _, rfl, _, n, _, ws, rfl, hT'.mono ex.n, fun H2 e2 => ⟨_, rfl, ?_⟩⟩
      have jlt : j < N := by omega
      have dN : decide (V.int (hereN ws n start (j + 1)) = V.int start) = decide (j + 1 = N) := by
        rw [dec_int]
        by_cases c : j + 1 = N
        · rw [decide_eq_true c, decide_eq_true]
          rw [c]
          exact W.back.back
        · rw [decide_eq_false c, decide_eq_false]
          exact W.back.first _ (Nat.succ_pos _) (by omega)
      have la : acc.length = j := by
        have := paired_len hacc
        rw [List.length_map, List.length_range] at this
        exact this
      -- the turn's end: the new piece is at r
      have fin : ∀ (H4 : Hp) (r : Addr) (a b c : Option V), Ex H2 H4 → PcAt H4 (.ref r) (pcN ws n start j) → ∃ m', m' < N - j ∧ ∃ (j2 : Nat) (acc2 : List V) (a2 b2 c2 : Option V), Ex H (upd H4 f (.lst (acc ++ [V.ref r]))) ∧ (upd H4 f (.lst (acc ++ [V.ref r]))) f = some (.lst acc2) ∧ PcsAt (upd H4 f (.lst (acc ++ [V.ref r]))) acc2 ((List.range j2).map (pcN ws n start)) ∧ m' = N - j2 ∧ j2 ≤ N ∧
          ([some (.ref x), some (.int start), some (.ref f), some (.int (hereN ws n start (j + 1))), some (.bl (decide (V.int (hereN ws n start (j + 1)) = V.int start))), a, b, c] : L2.St) = [some (.ref x), some (.int start), some (.ref f), some (.int (hereN ws n start j2)), some (.bl (decide (j2 = N))), a2, b2, c2] := by
        intro H4 r a b c e4 hp
        have hf4 := e4 _ _ (e2 _ _ hf)
        refine ⟨N - (j + 1), by omega, j + 1, acc ++ [V.ref r], a, b, c, ((ex.trans e2).trans e4).mut n1, upd_same, ?_, rfl, by omega, by rw [dN]⟩
        rw [List.range_succ, List.map_append]
        exact paired_app (PcsAt.mono (((e2.trans e4).n).trans (En.put hf4)) hacc) (.cons (hp.mono (En.put hf4)) .nil)
      cases hm : (formF ws).mid n (hereN ws n start j) with
      | true =>
        have st : stepF ws n start (hereN ws n start j) = (⟨hereN ws n start j, (formF ws).shift, runF (formF ws) n (hereN ws n start j) start, false⟩, hereN ws n start j + (formF ws).shift * runF (formF ws) n (hereN ws n start j) start) := by
          unfold stepF
          simp only [hm, if_true]
        have s1 : pcN ws n start j = ⟨hereN ws n start j, (formF ws).shift, runF (formF ws) n (hereN ws n start j) start, false⟩ := by
          show (stepF ws n start (hereN ws n start j)).1 = _
          rw [st]
        have s2 : hereN ws n start (j + 1) = hereN ws n start j + (formF ws).shift * runF (formF ws) n (hereN ws n start j) start := by
          show (stepF ws n start (hereN ws n start j)).2 = _
          rw [st]
        rw [s2, s1] at fin
        have e02 := ex.trans e2
        refine iteT ⟨_, rfl, x, dx, _, rfl, e02 _ _ hx, tk_no (by decide +kernel) (by decide +kernel) (by decide +kernel) (by decide +kernel) (by decide +kernel) (by decide +kernel), _, rfl, _, rfl, _, n, _, _, ws, rfl, hT'.mono e02.n, mid_shift hm, W.shift, fun H3 e3 => ?_⟩
        have e03 := e02.trans e3
        refine ⟨_, rfl, .inl ⟨rfl, _, SqL.of (e3 _ _ (e2 _ _ hf))⟩, _, rfl, _, rfl, x, _, dx, _, _, rfl, e03 _ _ hx, T.cl_Track, T.no_Track_form, tk_form, q, dq, _, rfl, e03 _ _ hq, _, formF ws, rfl, hF'.mono e03.n, _, rfl, (by show 4 ≤ sizeLine; decide), fun r hr1 => ?_⟩
        generalize hh4 : upd _ r _ = H4; obtain ⟨e4, t4⟩ := upd_facts hr1 hh4; clear hh4
        have e04 := e03.trans e4
        refine ⟨f, acc, _, rfl, rfl, e4 _ _ (e3 _ _ (e2 _ _ hf)), sz4' (by omega), ?_⟩
        have fx : f ≠ x := fun z => by
          rw [z, hx] at n1
          cases n1
        have fq : f ≠ q := fun z => by
          rw [z, hq] at n1
          cases n1
        refine ⟨_, rfl, _, rfl, x, _, dx, _, _, rfl, (upd_ne (Ne.symm fx)).trans (e04 _ _ hx), T.cl_Track, T.no_Track_form, tk_form, q, dq, _, rfl, (upd_ne (Ne.symm fq)).trans (e04 _ _ hq), _, formF ws, rfl, (hF'.mono e04.n).mono (En.put (e4 _ _ (e3 _ _ (e2 _ _ hf)))), _, rfl, _, _, rfl, rfl, cmulB (Nat.lt_trans W.shift (by decide +kernel)) (W.run j jlt), _, _, rfl, rfl, ?_⟩
        refine ⟨_, rfl, _, rfl, rfl, ?_⟩
        exact fin H4 r _ _ _ (e3.trans e4) ⟨r, rfl, t4⟩
      | false =>
        have st : stepF ws n start (hereN ws n start j) = (⟨hereN ws n start j, 0, 1, (sentW ws n (hereN ws n start j)).2⟩, (sentW ws n (hereN ws n start j)).1) := by
          unfold stepF
          simp only [hm]
          rfl
        have s1 : pcN ws n start j = ⟨hereN ws n start j, 0, 1, (sentW ws n (hereN ws n start j)).2⟩ := by
          show (stepF ws n start (hereN ws n start j)).1 = _
          rw [st]
        have s2 : hereN ws n start (j + 1) = (sentW ws n (hereN ws n start j)).1 := by
          show (stepF ws n start (hereN ws n start j)).2 = _
          rw [st]
        rw [s2, s1] at fin
        have e02 := ex.trans e2
        refine iteF ⟨_, rfl, x, _, dx, _, _, rfl, e02 _ _ hx, T.cl_Track, T.no_Track_word, tk_word, wp, wdx, _, rfl, e02 _ _ hwp, wd_no (by decide +kernel), _, rfl, x, _, dx, _, _, rfl, e02 _ _ hx, T.cl_Track, T.no_Track_size, tk_size, _, rfl, _, ws, n, _, rfl, hw'.mono e02.n, W.size, fun v' H3 e3 hv => ?_⟩
        obtain ⟨g, rfl, hg⟩ := hv
        refine ⟨g, _, rfl, SqT.of hg, rfl, _, _, rfl, _, _, rfl, rfl, ?_⟩
        have e03 := e02.trans e3
        refine ⟨_, rfl, .inl ⟨rfl, _, SqL.of (e3 _ _ (e2 _ _ hf))⟩, _, rfl, _, rfl, (by show 4 ≤ sizeLine; decide), fun r hr1 => ?_⟩
        generalize hh4 : upd _ r _ = H4; obtain ⟨e4, t4⟩ := upd_facts hr1 hh4; clear hh4
        refine ⟨f, acc, _, rfl, rfl, e4 _ _ (e3 _ _ (e2 _ _ hf)), sz4' (by omega), ?_⟩
        refine ⟨_, rfl, _, rfl, _, rfl, rfl, ?_⟩
        exact fin H4 r _ _ _ (e3.trans e4) ⟨r, rfl, t4⟩
end
end Pp

set_option Elab.async false
set_option linter.all false
set_option maxRecDepth 100000
set_option maxHeartbeats 4000000
/-! total, way, seen_at -/
namespace Pp
open PySem PySem.Spec PyProof.Rows L2
structure PcOk (c : Pc) : Prop where
  step : c.step.natAbs < 1000
  nonneg : 0 ≤ c.count
  count : c.count.natAbs < big
def aheadF (goal : Int) (c : Pc) : Int := if c.step = 0 then 0 else (goal - c.first).fdiv c.step
theorem seenF_cons {goal : Int} {c : Pc} {r : List Pc} {l : Int} {t : Bool} : seenF goal (c :: r) l t = if (0 ≤ aheadF goal c ∧ aheadF goal c < c.count) ∧ c.first + c.step * aheadF goal c = goal then some (l + aheadF goal c, t) else seenF goal r (l + c.count) (t != c.turn) := rfl
section
variable {P : Program} {w : World} {K : PySem.W.Frag} {mg : Str → Option Value} {base : Heap}
theorem drop_of {α : Type} {l : List α} {i : Nat} {x : α} (h : l[i]? = some x) : l.drop i = x :: l.drop (i + 1) := by
  obtain ⟨hi, e⟩ := List.getElem?_eq_some_iff.mp h
  rw [List.drop_eq_getElem_cons hi, e]
def sp_total : Sp := fun vs H Q _ => ∃ a xs ps, vs = [.ref a] ∧ H a = some (.lst xs) ∧ PcsAt H xs ps ∧ ∀ p H', Ex H H' → H' p = some (.tup [.int (totalF ps (0, false)).1, .bl (totalF ps (0, false)).2]) → Q (.ref p) H'
theorem ok_total (T : Tx w K mg) : FnR P w K mg base CX0 1 (He.ga K "total") (sp_total) := by
  refine mkR T.d_total sc_total (fun _ _ _ _ _ _ us hl => match us, hl with | [_], _ => rfl) (fun vs H Q E h => ?_) (fun cdv A outer s H vs Q E hr h => ?_)
  · obtain ⟨a, xs, ps, rfl, _⟩ := h
    rfl
  · obtain ⟨a, xs, ps, rfl, ha, hp, k⟩ := h
    have hl := paired_len hp
    refine ⟨_, (pss_cons (ps_asg (pe_tup (pa_cons pe_int (pa_cons pe_bl pa_nil))) (pg_tup (by rfl) (pgs_cons (pg_name (i := 1) sc_total.nd rfl (Or.inl rfl)) (pgs_cons (pg_name (i := 2) sc_total.nd rfl (Or.inl rfl)) pgs_nil)))) (pss_cons (ps_for PassesOwn.never rfl (pi_list (pv 0)) (pg_tup (by rfl) (pgs_cons (pg_name (i := 3) sc_total.nd rfl (Or.inl rfl)) (pgs_cons (pg_name (i := 4) sc_total.nd rfl (Or.inl rfl)) (pgs_cons (pg_name (i := 5) sc_total.nd rfl (Or.inl rfl)) (pgs_cons (pg_name (i := 6) sc_total.nd rfl (Or.inl rfl)) pgs_nil))))) (pss_cons (ps_aug (i := 1) sc_total.nd rfl (Or.inl rfl) (pv 5) ip_add) (pss_one (ps_set (i := 2) sc_total.nd rfl (Or.inl rfl) (pe_cmpR op_ne (pv 2) (pv 6) (nomark _)))))) (pss_one (ps_ret (pe_tup (pa_cons (pv 1) (pa_cons (pv 2) pa_nil))))))), ?_⟩
    refine ⟨(by show 2 ≤ sizeLine; decide), fun pp np => ?_⟩
    generalize hhp : upd _ pp _ = Hp0; obtain ⟨ep, tp⟩ := upd_facts np hhp; clear hhp
    refine ⟨pp, _, rfl, SqT.of tp, rfl, _, _, rfl, _, _, rfl, rfl, ?_⟩
    refine ⟨_, rfl, a, rfl, ⟨xs, SqL.of (ep _ _ ha)⟩, for_it (walk_list (K := K) (a := a) (xs := xs)) (fun i σ H' => Ex H H' ∧ ∃ (l : Int) (t : Bool) (b c d e : Option V), σ = [some (.ref a), some (.int l), some (.bl t), b, c, d, e] ∧ totalF (ps.drop i) (l, t) = totalF ps (0, false)) ⟨ep, _, _, _, _, _, _, rfl, rfl⟩ (fun i σ H' _ h => SqL.of (h.1 _ _ ha)) (fun i y σ H3 H4 hi hP hy => ?_) (fun σ H3 hP => ?_)⟩
    · obtain ⟨e3, l, t, b, c, d, e, rfl, hs⟩ := hP
      obtain ⟨rfl, hy⟩ := hy
      obtain ⟨x, hx1, hx2⟩ := paired_get hp hy
      obtain ⟨r, rfl, hr1⟩ := hx2.mono e3.n
      refine ⟨r, _, rfl, SqT.of hr1, rfl, _, _, rfl, _, _, rfl, _, _, rfl, _, _, rfl, rfl, ?_⟩
      refine ⟨_, rfl, _, rfl, _, _, rfl, rfl, ?_⟩
      refine ⟨_, rfl, _, rfl, rfl, ?_⟩
      refine ⟨e3, _, _, _, _, _, _, rfl, ?_⟩
      rw [drop_of hx1] at hs
      rw [← hs]
      show totalF _ (l + x.count, !decide (V.bl t = V.bl x.turn)) = totalF _ (l + x.count, t != x.turn)
      rw [ne_bl]
    · obtain ⟨e3, l, t, b, c, d, e, rfl, hs⟩ := hP
      rw [hl, List.drop_length] at hs
      have hs : (l, t) = totalF ps (0, false) := hs
      rw [← hs] at k
      exact ⟨_, rfl, _, rfl, (by show 2 ≤ sizeLine; decide), fun p2 n2 => k _ _ (e3.trans (Ex.new n2)) upd_same⟩
def sp_need_spot : Sp := fun vs H Q _ => ∃ n p : Int, vs = [.int n, .int p] ∧ 0 ≤ p ∧ p < n ∧ n ≤ 10 ^ 30 ∧ Q .non H
theorem ok_need_spot (T : Tx w K mg) : FnR P w K mg base CX0 2 (He.ga K "need_spot") (sp_need_spot) := by
  refine mkR T.d_need_spot sc_need_spot (fun _ _ _ _ _ _ us hl => match us, hl with | [_, _], _ => rfl) (fun vs H Q E h => ?_) (fun cdv A outer s H vs Q E hr h => ?_)
  · obtain ⟨n, p, rfl, _⟩ := h
    rfl
  · obtain ⟨n, p, rfl, h1, h2, h3, k⟩ := h
    exact ⟨_, (pss_cons (ps_expr (c_call (ok_need_size T) (hr.mono (by decide)) (by rfl) T.g_need_size (kp_of T.d_need_size) (pa_cons (pv 0) pa_nil))) (pss_one (ps_expr (c_call (ok_need_place T) (hr.mono (by decide)) (by rfl) T.g_need_place (kp_of T.d_need_place) (pa_cons (pv 1) (pa_cons (pv 0) pa_nil)))))), _, rfl, _, rfl, by omega, h3, _, rfl, _, rfl, _, _, rfl, h1, h2, k⟩
def sp_way : Sp := fun vs H Q _ => ∃ v ws n p N, vs = [v, .int n, .int p] ∧ WdAt K H v ws ∧ WOk ws ∧ 120 ≤ n ∧ n ≤ 10 ^ 30 ∧ 0 ≤ p ∧ p < n ∧ WayOk ws n p N ∧ ∀ q xs H', Ex H H' → H' q = some (.lst xs) → PcsAt H' xs (wayL ws n p N) → Q (.ref q) H'
theorem ok_way (T : Tx w K mg) : FnR P w K mg base CX0 11 (He.ga K "way") (sp_way (K := K)) := by
  refine mkR T.d_way sc_way (fun _ _ _ _ _ _ us hl => match us, hl with | [_, _, _], _ => rfl) (fun vs H Q E h => ?_) (fun cdv A outer s H vs Q E hr h => ?_)
  · obtain ⟨v, ws, n, p, N, rfl, _⟩ := h
    rfl
  · obtain ⟨v, ws, n, p, N, rfl, hw, W, n1, n2, p1, p2, Y, k⟩ := h
    refine ⟨_, (pss_cons (ps_expr (c_call (ok_need_spot T) (hr.mono (by decide)) (by rfl) T.g_need_spot (kp_of T.d_need_spot) (pa_cons (pv 1) (pa_cons (pv 2) pa_nil)))) (pss_one (ps_ret (c_meth (StX.pe_makeR T.mk_Track (ok_Track_init T) (hr.mono (by decide)) (by rfl) T.g_Track pass0 (pa_cons (pv 0) (pa_cons (pv 1) pa_nil))) T.cl_Track T.me_Track_pieces (ok_Track_pieces T) (hr.mono (by decide)) (pa_cons (pv 2) pa_nil))))), ?_⟩
    refine ⟨_, rfl, _, rfl, _, _, rfl, p1, p2, n2, ?_⟩
    refine ⟨_, rfl, _, rfl, track_made hw W n1 fun q H1 e1 hq => ?_⟩
    have hq' := hq
    obtain ⟨x, dx, wd, fm, eq, hx, _⟩ := hq
    cases eq
    exact ⟨_, _, _, rfl, hx, tk_no (by decide +kernel) (by decide +kernel) (by decide +kernel) (by decide +kernel) (by decide +kernel) (by decide +kernel), _, rfl, _, n, p, ws, N, rfl, hq', Y, fun q2 xs H2 e2 h2 h3 => k q2 xs H2 (e1.trans e2) h2 h3⟩
def sp_seen_at : Sp := fun vs H Q _ => ∃ a xs ps goal, vs = [.ref a, .int goal] ∧ H a = some (.lst xs) ∧ PcsAt H xs ps ∧ (∀ c ∈ ps, PcOk c) ∧ (seenF goal ps 0 false = none → ∀ H', Ex H H' → Q .non H') ∧
  ∀ x, seenF goal ps 0 false = some x → ∀ p H', Ex H H' → H' p = some (.tup [.int x.1, .bl x.2]) → Q (.ref p) H'
theorem ok_seen_at (T : Tx w K mg) : FnR P w K mg base CX0 1 (He.ga K "seen_at") (sp_seen_at) := by
  refine mkR T.d_seen_at sc_seen_at (fun _ _ _ _ _ _ us hl => match us, hl with | [_, _], _ => rfl) (fun vs H Q E h => ?_) (fun cdv A outer s H vs Q E hr h => ?_)
  · obtain ⟨a, xs, ps, goal, rfl, _⟩ := h
    rfl
  · obtain ⟨a, xs, ps, goal, rfl, ha, hp, ok, kn, ks⟩ := h
    have hl := paired_len hp
    refine ⟨_, (pss_cons (ps_asg (pe_tup (pa_cons pe_int (pa_cons pe_bl pa_nil))) (pg_tup (by rfl) (pgs_cons (pg_name (i := 2) sc_seen_at.nd rfl (Or.inl rfl)) (pgs_cons (pg_name (i := 3) sc_seen_at.nd rfl (Or.inl rfl)) pgs_nil)))) (pss_cons (ps_for PassesOwn.never rfl (pi_list (pv 0)) (pg_tup (by rfl) (pgs_cons (pg_name (i := 4) sc_seen_at.nd rfl (Or.inl rfl)) (pgs_cons (pg_name (i := 5) sc_seen_at.nd rfl (Or.inl rfl)) (pgs_cons (pg_name (i := 6) sc_seen_at.nd rfl (Or.inl rfl)) (pgs_cons (pg_name (i := 7) sc_seen_at.nd rfl (Or.inl rfl)) pgs_nil))))) (pss_cons (ps_set (i := 8) sc_seen_at.nd rfl (Or.inl rfl) (pe_ifExp (pt_cmpR op_eq (pv 5) pe_int (nomark _)) pe_int (pe_op op_fdivN (pe_op op_sub (pv 1) (pv 4)) (pv 5)))) (pss_cons (ps_if (PW.pt (pw_and (pt_chain op_le op_lt pe_int (pv 8) (pv 6)) (pw_and1 (pt_cmpR op_eq (pe_op op_add (pv 4) (pe_op op_mulW (pv 5) (pv 8))) (pv 1) (nomark _))))) (pss_one (ps_ret (pe_tup (pa_cons (pe_op op_add (pv 2) (pv 8)) (pa_cons (pv 3) pa_nil))))) pss_nil) (pss_cons (ps_aug (i := 2) sc_seen_at.nd rfl (Or.inl rfl) (pv 6) ip_add) (pss_one (ps_set (i := 3) sc_seen_at.nd rfl (Or.inl rfl) (pe_cmpR op_ne (pv 3) (pv 7) (nomark _)))))))) (pss_one (ps_ret pe_non)))), ?_⟩
    refine ⟨(by show 2 ≤ sizeLine; decide), fun pp np => ?_⟩
    generalize hhp : upd _ pp _ = Hp0; obtain ⟨ep, tp⟩ := upd_facts np hhp; clear hhp
    refine ⟨pp, _, rfl, SqT.of tp, rfl, _, _, rfl, _, _, rfl, rfl, ?_⟩
    refine ⟨_, rfl, a, rfl, ⟨xs, SqL.of (ep _ _ ha)⟩, for_it (walk_list (K := K) (a := a) (xs := xs)) (fun i σ H' => Ex H H' ∧ ∃ (l : Int) (t : Bool) (b c d e f : Option V), σ = [some (.ref a), some (.int goal), some (.int l), some (.bl t), b, c, d, e, f] ∧ seenF goal (ps.drop i) l t = seenF goal ps 0 false) ⟨ep, _, _, _, _, _, _, _, rfl, rfl⟩ (fun i σ H' _ h => SqL.of (h.1 _ _ ha)) (fun i y σ H3 H4 hi hP hy => ?_) (fun σ H3 hP => ?_)⟩
    · obtain ⟨e3, l, t, b, c, d, e, f, rfl, hs⟩ := hP
      obtain ⟨rfl, hy⟩ := hy
      obtain ⟨x, hx1, hx2⟩ := paired_get hp hy
      have xo := ok x (List.mem_of_getElem? hx1)
      obtain ⟨r, rfl, hr1⟩ := hx2.mono e3.n
      rw [drop_of hx1] at hs
      rw [seenF_cons] at hs
      refine ⟨r, _, rfl, SqT.of hr1, rfl, _, _, rfl, _, _, rfl, _, _, rfl, _, _, rfl, rfl, ?_⟩
      have main : ∀ (D : Ends) (ah : Int), D.rt = Q → (∀ σ H', (Ex H H' ∧ ∃ (l : Int) (t : Bool) (b c d e f : Option V), σ = [some (.ref a), some (.int goal), some (.int l), some (.bl t), b, c, d, e, f] ∧ seenF goal (ps.drop (i + 1)) l t = seenF goal ps 0 false) → D.nx σ H') → ah = aheadF goal x →
        tSeq (tIfS (tAnd (tTest (tChain (rI0 fun i j => V.bl (decide (i ≤ j))) (rI0 fun i j => V.bl (decide (i < j))) (tC (V.int 0)) (tVar 8) (tVar 6))) (tTest (tOp rEq (tOp (rI0 fun i j => V.int (i + j)) (tVar 4) (tOp (rI CMulW fun i j => V.int (i * j)) (tVar 5) (tVar 8))) (tVar 1))))
            (tRet (tTup (tCons (tOp (rI0 fun i j => V.int (i + j)) (tVar 2) (tVar 8)) (tCons (tVar 3) tNil)))) tNext)
          (tSeq (tAug 2 (tVar 6) (ipI fun i j => i + j)) (tAsg (tOp rNe (tVar 3) (tVar 7)) (gName 3))) D
          [some (.ref a), some (.int goal), some (.int l), some (.bl t), some (.int x.first), some (.int x.step), some (.int x.count), some (.bl x.turn), some (.int ah)] H4 := by
        rintro D ah rfl hnx eah
        rw [← eah] at hs
        have tail : ¬ ((0 ≤ ah ∧ ah < x.count) ∧ x.first + x.step * ah = goal) → tSeq (tAug 2 (tVar 6) (ipI fun i j => i + j)) (tAsg (tOp rNe (tVar 3) (tVar 7)) (gName 3)) D [some (.ref a), some (.int goal), some (.int l), some (.bl t), some (.int x.first), some (.int x.step), some (.int x.count), some (.bl x.turn), some (.int ah)] H4 := by
          intro c0
          rw [if_neg c0] at hs
          refine ⟨_, rfl, _, rfl, _, _, rfl, rfl, _, rfl, _, rfl, rfl, ?_⟩
          refine hnx _ _ ⟨e3, l + x.count, t != x.turn, some (.int x.first), some (.int x.step), some (.int x.count), some (.bl x.turn), some (.int ah), ?_, hs⟩
          rw [← ne_bl] <;> rfl
        refine ⟨_, rfl, _, _, rfl, rfl, _, rfl, ?_⟩
        by_cases c1 : 0 ≤ ah
        · rw [decide_eq_true c1]
          refine iteT ⟨_, rfl, _, _, rfl, rfl, _, rfl, ?_⟩
          by_cases c2 : ah < x.count
          · rw [decide_eq_true c2]
            have cb := xo.count
            refine iteT ⟨_, rfl, _, rfl, _, rfl, _, _, rfl, rfl, cmulB (Nat.lt_trans xo.step (by decide +kernel)) (by omega), _, _, rfl, rfl, _, rfl, rfl, _, rfl, ?_⟩
            rw [dec_int]
            by_cases c3 : x.first + x.step * ah = goal
            · rw [decide_eq_true c3]
              rw [if_pos ⟨⟨c1, c2⟩, c3⟩] at hs
              exact iteT ⟨_, rfl, _, rfl, _, _, rfl, rfl, _, rfl, (by show 2 ≤ sizeLine; decide), fun p2 n2 => ks _ hs.symm p2 _ (e3.trans (Ex.new n2)) upd_same⟩
            · rw [decide_eq_false c3]
              exact iteF (tail fun z => c3 z.2)
          · rw [decide_eq_false c2]
            exact iteF (iteF (tail fun z => c2 z.1.2))
        · rw [decide_eq_false c1]
          exact iteF ⟨_, rfl, iteF (iteF (tail fun z => c1 z.1.1))⟩
      refine ⟨_, rfl, rfl, _, rfl, ?_⟩
      rw [dec_int]
      by_cases c0 : x.step = 0
      · rw [decide_eq_true c0]
        exact iteT (main _ 0 rfl (fun _ _ h => h) (by unfold aheadF; rw [if_pos c0]))
      · rw [decide_eq_false c0]
        have sb := xo.step
        exact iteF ⟨_, rfl, _, rfl, _, _, rfl, rfl, _, rfl, _, _, rfl, rfl, ⟨c0, by omega⟩, main _ _ rfl (fun _ _ h => h) (by unfold aheadF; rw [if_neg c0])⟩
    · obtain ⟨e3, l, t, b, c, d, e, f, rfl, hs⟩ := hP
      rw [hl, List.drop_length] at hs
      exact kn hs.symm _ e3
end
end Pp

set_option Elab.async false
set_option linter.all false
set_option maxRecDepth 100000
set_option maxHeartbeats 4000000
/-! met, meeting -/
namespace Pp
open PySem PySem.Spec PyProof.Rows L2
def faceV : Option Bool → V
  | none => .non
  | some b => .bl b
structure Wt where
  place : Int
  goal : Int
  face : Option Bool
  m : Int
def WtAt (H : Hp) (v : V) (x : Wt) : Prop := ∃ p, v = .ref p ∧ H p = some (.tup [.int x.place, .int x.goal, faceV x.face])
theorem WtAt.mono {H H' : Hp} (e : En H H') {v : V} {x : Wt} (h : WtAt H v x) : WtAt H' v x := let ⟨p, h1, h2⟩ := h; ⟨p, h1, e _ _ h2 rfl⟩
structure TrkOk (ws : List Mv) (n p : Int) (N : Nat) : Prop where
  way : WayOk ws n p N
  ok : ∀ c ∈ wayL ws n p N, PcOk c
  pos : 0 < (totalF (wayL ws n p N) (0, false)).1
  tot : (totalF (wayL ws n p N) (0, false)).1.natAbs < big
/-- a want that is met at the remainders of R -/
structure WtOk (ws : List Mv) (n R : Int) (x : Wt) : Prop where
  p0 : 0 ≤ x.place
  p1 : x.place < n
  g0 : 0 ≤ x.goal
  g1 : x.goal < n
  m0 : 0 < x.m
  m1 : x.m ≤ 2 * 10 ^ 30
  met : ∃ N, TrkOk ws n x.place N ∧ metF (wayL ws n x.place N) x.goal x.face = some (R % x.m, x.m)
structure BigOk (ws : List Mv) (n : Int) : Prop where
  w : WOk ws
  n1 : 120 ≤ n
  n2 : n ≤ 10 ^ 30
section
variable {P : Program} {w : World} {K : PySem.W.Frag} {mg : Str → Option Value} {base : Heap}
def sp_met : Sp := fun vs H Q _ => ∃ v ws n wa x R, vs = [v, .int n, wa] ∧ WdAt K H v ws ∧ BigOk ws n ∧ WtAt H wa x ∧ WtOk ws n R x ∧ ∀ v' H', Ex H H' → PrAt H' v' (R % x.m) x.m → Q v' H'
theorem ok_met (T : Tx w K mg) : FnR P w K mg base CX0 12 (He.ga K "met") (sp_met (K := K)) := by
  refine mkR T.d_met sc_met (fun _ _ _ _ _ _ us hl => match us, hl with | [_, _, _], _ => rfl) (fun vs H Q E h => ?_) (fun cdv A outer s H vs Q E hr h => ?_)
  · obtain ⟨v, ws, n, wa, x, R, rfl, _⟩ := h
    rfl
  · obtain ⟨v, ws, n, wa, x, R, rfl, hw, B, ⟨p, rfl, hp⟩, X, k⟩ := h
    obtain ⟨N, Y, hmet⟩ := X.met
    refine ⟨_, (pss_cons (ps_asg (pv 2) (pg_tup (by rfl) (pgs_cons (pg_name (i := 3) sc_met.nd rfl (Or.inl rfl)) (pgs_cons (pg_name (i := 4) sc_met.nd rfl (Or.inl rfl)) (pgs_cons (pg_name (i := 5) sc_met.nd rfl (Or.inl rfl)) pgs_nil))))) (pss_cons (ps_set (i := 6) sc_met.nd rfl (Or.inl rfl) (c_call (ok_way T) (hr.mono (by decide)) (by rfl) T.g_way (kp_of T.d_way) (pa_cons (pv 0) (pa_cons (pv 1) (pa_cons (pv 3) pa_nil))))) (pss_cons (ps_asg (c_call (ok_total T) (hr.mono (by decide)) (by rfl) T.g_total (kp_of T.d_total) (pa_cons (pv 6) pa_nil)) (pg_tup (by rfl) (pgs_cons (pg_name (i := 7) sc_met.nd rfl (Or.inl rfl)) (pgs_cons (pg_name (i := 8) sc_met.nd rfl (Or.inl rfl)) pgs_nil)))) (pss_cons (ps_set (i := 9) sc_met.nd rfl (Or.inl rfl) (c_call (ok_seen_at T) (hr.mono (by decide)) (by rfl) T.g_seen_at (kp_of T.d_seen_at) (pa_cons (pv 6) (pa_cons (pv 4) pa_nil)))) (pss_cons (ps_if (pt_cmpR op_isN (pv 9) pe_non (nomark _)) (pss_one (ps_ret pe_non)) pss_nil) (pss_cons (ps_asg (pv 9) (pg_tup (by rfl) (pgs_cons (pg_name (i := 10) sc_met.nd rfl (Or.inl rfl)) (pgs_cons (pg_name (i := 11) sc_met.nd rfl (Or.inl rfl)) pgs_nil)))) (pss_cons (ps_if (pt_cmpR op_isN (pv 5) pe_non (nomark _)) (pss_one (ps_ret (pe_tup (pa_cons (pv 10) (pa_cons (pv 7) pa_nil))))) pss_nil) (pss_cons (ps_if (pt_val (pv 8)) (pss_one (ps_ret (pe_tup (pa_cons (pe_ifExp (pt_cmpR op_eq (pv 11) (pv 5) (nomark _)) (pv 10) (pe_op op_add (pv 10) (pv 7))) (pa_cons (pe_op op_mulW pe_int (pv 7)) pa_nil))))) pss_nil) (pss_one (ps_ret (pe_ifExp (pt_cmpR op_eq (pv 11) (pv 5) (nomark _)) (pe_tup (pa_cons (pv 10) (pa_cons (pv 7) pa_nil))) pe_non))))))))))), ?_⟩
    refine ⟨_, rfl, p, _, rfl, SqT.of hp, rfl, _, _, rfl, _, _, rfl, _, _, rfl, rfl, ?_⟩
    refine ⟨_, rfl, _, rfl, _, rfl, _, ws, n, _, N, rfl, hw, B.w, B.n1, B.n2, X.p0, X.p1, Y.way, fun a xs H1 e1 ha hx => ?_⟩
    refine ⟨_, rfl, a, xs, _, rfl, ha, hx, fun t H2 e2 ht => ?_⟩
    refine ⟨t, _, rfl, SqT.of ht, rfl, _, _, rfl, _, _, rfl, rfl, ?_⟩
    have e12 := e1.trans e2
    unfold metF at hmet
    refine ⟨_, rfl, _, rfl, a, xs, _, _, rfl, e2 _ _ ha, PcsAt.mono e2.n hx, Y.ok, fun hn => ?_, fun y hy r H3 e3 hr1 => ?_⟩
    · simp only [hn] at hmet
      cases hmet
    simp only [hy] at hmet
    have hL := Y.tot
    generalize (totalF (wayL ws n x.place N) (0, false)).1 = L at *
    generalize (totalF (wayL ws n x.place N) (0, false)).2 = tt at *
    have e13 := e12.trans e3
    have give : ∀ (a b : Int), some (a, b) = some (R % x.m, x.m) → ∀ p4, H3 p4 = none → Q (.ref p4) (upd H3 p4 (.tup [.int a, .int b])) := by
      intro a b hab p4 n4
      injection hab with hab
      injection hab with h1 h2
      subst h1
      refine k _ _ (e13.trans (Ex.new n4)) ⟨p4, rfl, ?_⟩
      rw [upd_same, h2]
    refine ⟨_, rfl, rfl, _, rfl, ?_⟩
    rw [decide_eq_false (show ¬ V.ref r = V.non by intro z; cases z)]
    refine iteF ⟨_, rfl, r, _, rfl, SqT.of hr1, rfl, _, _, rfl, _, _, rfl, rfl, ?_⟩
    refine ⟨_, rfl, rfl, _, rfl, ?_⟩
    cases hf : x.face with
    | none =>
      rw [hf] at hmet
      rw [decide_eq_true (show faceV none = V.non from rfl)]
      exact iteT ⟨_, rfl, _, rfl, (by show 2 ≤ sizeLine; decide), give _ _ hmet⟩
    | some b =>
      rw [hf] at hmet
      rw [decide_eq_false (show ¬ faceV (some b) = V.non by intro z; cases z)]
      have hb : ∀ {c d : Bool}, decide (V.bl c = faceV (some d)) = decide (c = d) := by
        intro c d
        show decide (V.bl c = V.bl d) = decide (c = d)
        cases c <;> cases d <;> simp
      refine iteF ⟨_, rfl, _, rfl, ?_⟩
      cases tt with
      | true =>
        simp only [if_true] at hmet
        refine iteT ⟨_, rfl, _, rfl, rfl, _, rfl, ?_⟩
        rw [hb]
        by_cases c : y.2 = b
        · rw [decide_eq_true c]
          rw [if_pos c] at hmet
          exact iteT ⟨_, rfl, _, rfl, _, _, rfl, rfl, cmulB (by decide +kernel) hL, (by show 2 ≤ sizeLine; decide), give _ _ hmet⟩
        · rw [decide_eq_false c]
          rw [if_neg c] at hmet
          exact iteF ⟨_, rfl, _, rfl, _, _, rfl, rfl, _, rfl, _, _, rfl, rfl, cmulB (by decide +kernel) hL, (by show 2 ≤ sizeLine; decide), give _ _ hmet⟩
      | false =>
        simp only [Bool.false_eq_true, if_false] at hmet
        refine iteF ⟨_, rfl, _, rfl, rfl, _, rfl, ?_⟩
        rw [hb]
        by_cases c : y.2 = b
        · rw [decide_eq_true c]
          rw [if_pos c] at hmet
          exact iteT ⟨_, rfl, _, rfl, (by show 2 ≤ sizeLine; decide), give _ _ hmet⟩
        · rw [if_neg c] at hmet
          cases hmet
def sp_meeting : Sp := fun vs H Q _ => ∃ v ws n x R, vs = [v, .int n, .int x.place, .int x.goal, faceV x.face] ∧ WdAt K H v ws ∧ BigOk ws n ∧ WtOk ws n R x ∧ ∀ v' H', Ex H H' → PrAt H' v' (R % x.m) x.m → Q v' H'
theorem ok_meeting (T : Tx w K mg) : ∃ fd, FnOk P w K mg base CX0 13 (He.ga K "meeting") fd ["word", "size", "place", "goal", "turned"] (sp_meeting (K := K)) ∧ KBn K fd ["word", "size", "place", "goal", "turned"] 4 ["turned"] (fun us ws => us ++ ws) (fun vs zs => vs ++ zs) := by
  obtain ⟨fd, F⟩ := T.d_meeting
  refine ⟨fd, F.ok sc_meeting (fun vs H Q E h => ?_) (fun cdv A outer s H vs Q E hr h => ?_), ?_⟩
  · obtain ⟨v, ws, n, x, R, rfl, _⟩ := h
    rfl
  · suffices z : ∃ t, PSs (cxOf CX0 P w K mg base n_meeting "meeting" (defScope s_meeting) (He.ga K "meeting") cdv A outer s H E).nox (defBody s_meeting) t ∧ t { nx := fun _ H' => Q .non H', rt := Q } (L2.start n_meeting vs) H from let ⟨t, a, q⟩ := z; ⟨t, a.nox, q⟩
    obtain ⟨v, ws, n, x, R, rfl, hw, B, X, k⟩ := h
    refine ⟨_, (pss_cons (ps_expr (c_call (ok_need_spot T) (hr.mono (by decide)) (by rfl) T.g_need_spot (kp_of T.d_need_spot) (pa_cons (pv 1) (pa_cons (pv 2) pa_nil)))) (pss_cons (ps_expr (c_call (ok_need_place T) (hr.mono (by decide)) (by rfl) T.g_need_place (kp_of T.d_need_place) (pa_cons (pv 3) (pa_cons (pv 1) pa_nil)))) (pss_one (ps_ret (c_call (ok_met T) (hr.mono (by decide)) (by rfl) T.g_met (kp_of T.d_met) (pa_cons (pv 0) (pa_cons (pv 1) (pa_cons (pe_tup (pa_cons (pv 2) (pa_cons (pv 3) (pa_cons (pv 4) pa_nil)))) pa_nil)))))))), ?_⟩
    refine ⟨_, rfl, _, rfl, _, _, rfl, X.p0, X.p1, B.n2, _, rfl, _, rfl, _, _, rfl, X.g0, X.g1, ?_⟩
    refine ⟨_, rfl, _, rfl, _, rfl, _, rfl, _, rfl, (by show 3 ≤ sizeLine; decide), fun p1 n1 => ?_⟩
    generalize hh1 : upd _ p1 _ = H1; obtain ⟨e1, t1⟩ := upd_facts n1 hh1; clear hh1
    exact ⟨_, ws, n, _, x, R, rfl, hw.mono e1.n, B, ⟨p1, rfl, t1⟩, X, fun v' H' e h => k v' H' (e1.trans e) h⟩
  · obtain ⟨oc, od, dV, kV, doc, pm, an, cdv, ct, osl, rfl, lk, hcd, hD, hK⟩ := F.ex
    rcases hD with ⟨_, rfl⟩ | ⟨e, _⟩
    · refine ⟨fun s us ws X l1 l2 => .of_eq ?_, fun r1 r2 => r1.append r2⟩
      match us, l1, ws, l2 with
      | [_, _, _, _], _, [_], _ => rfl
    · exact absurd rfl e
end
end Pp

set_option Elab.async false
set_option linter.all false
set_option maxRecDepth 100000
set_option maxHeartbeats 4000000
/-! after -/
namespace Pp
open PySem PySem.Spec PyProof.Rows L2
section
variable {P : Program} {w : World} {K : PySem.W.Frag} {mg : Str → Option Value} {base : Heap}
theorem foundF_cons {place : Int} {c : Pc} {r : List Pc} {ah : Int} {f : Bool} : foundF place (c :: r) ah f = if ah < c.count then (c.first + c.step * ah, f) else foundF place r (ah - c.count) (f != c.turn) := rfl
def sp_found_after : Sp := fun vs H Q _ => ∃ v ws n p R N, vs = [v, .int n, .int p, .int R] ∧ WdAt K H v ws ∧ BigOk ws n ∧ 0 ≤ p ∧ p < n ∧ TrkOk ws n p N ∧ ∀ v' H', Ex H H' → PairAt H' v' (afterF (wayL ws n p N) p R) → Q v' H'
theorem ok_found_after (T : Tx w K mg) : FnR P w K mg base CX0 12 (He.ga K "found_after") (sp_found_after (K := K)) := by
  refine mkR T.d_found_after sc_found_after (fun _ _ _ _ _ _ us hl => match us, hl with | [_, _, _, _], _ => rfl) (fun vs H Q E h => ?_) (fun cdv A outer s H vs Q E hr h => ?_)
  · obtain ⟨v, ws, n, p, R, N, rfl, _⟩ := h
    rfl
  · obtain ⟨v, ws, n, p, R, N, rfl, hw, B, hp0, hp1, Y, k⟩ := h
    refine ⟨_, (pss_cons (ps_set (i := 4) sc_found_after.nd rfl (Or.inl rfl) (c_call (ok_way T) (hr.mono (by decide)) (by rfl) T.g_way (kp_of T.d_way) (pa_cons (pv 0) (pa_cons (pv 1) (pa_cons (pv 2) pa_nil))))) (pss_cons (ps_asg (c_call (ok_total T) (hr.mono (by decide)) (by rfl) T.g_total (kp_of T.d_total) (pa_cons (pv 4) pa_nil)) (pg_tup (by rfl) (pgs_cons (pg_name (i := 5) sc_found_after.nd rfl (Or.inl rfl)) (pgs_cons (pg_name (i := 6) sc_found_after.nd rfl (Or.inl rfl)) pgs_nil)))) (pss_cons (ps_asg (pe_callB call_divmodW (by rfl) T.f_divmod (by decide +kernel) (pa_cons (pv 3) (pa_cons (pv 5) pa_nil))) (pg_tup (by rfl) (pgs_cons (pg_name (i := 7) sc_found_after.nd rfl (Or.inl rfl)) (pgs_cons (pg_name (i := 8) sc_found_after.nd rfl (Or.inl rfl)) pgs_nil)))) (pss_cons (ps_set (i := 9) sc_found_after.nd rfl (Or.inl rfl) (pe_and (pv 6) (pe_one (pe_cmpR op_eq (pe_op op_mod (pv 7) pe_int) pe_int (nomark _))))) (pss_cons (ps_for PassesOwn.never rfl (pi_list (pv 4)) (pg_tup (by rfl) (pgs_cons (pg_name (i := 10) sc_found_after.nd rfl (Or.inl rfl)) (pgs_cons (pg_name (i := 11) sc_found_after.nd rfl (Or.inl rfl)) (pgs_cons (pg_name (i := 12) sc_found_after.nd rfl (Or.inl rfl)) (pgs_cons (pg_name (i := 13) sc_found_after.nd rfl (Or.inl rfl)) pgs_nil))))) (pss_cons (ps_if (pt_cmpR op_lt (pv 8) (pv 12) (nomark _)) (pss_one (ps_ret (pe_tup (pa_cons (pe_op op_add (pv 10) (pe_op op_mulW (pv 11) (pv 8))) (pa_cons (pv 9) pa_nil))))) pss_nil) (pss_cons (ps_aug (i := 8) sc_found_after.nd rfl (Or.inl rfl) (pv 12) ip_sub) (pss_one (ps_set (i := 9) sc_found_after.nd rfl (Or.inl rfl) (pe_cmpR op_ne (pv 9) (pv 13) (nomark _))))))) (pss_one (ps_ret (pe_tup (pa_cons (pv 2) (pa_cons (pv 9) pa_nil)))))))))), ?_⟩
    refine ⟨_, rfl, _, rfl, _, rfl, _, ws, n, _, N, rfl, hw, B.w, B.n1, B.n2, hp0, hp1, Y.way, fun a xs H1 e1 ha hx => ?_⟩
    refine ⟨_, rfl, a, xs, _, rfl, ha, hx, fun t H2 e2 ht => ?_⟩
    refine ⟨t, _, rfl, SqT.of ht, rfl, _, _, rfl, _, _, rfl, rfl, ?_⟩
    have e12 := e1.trans e2
    have hL := Y.tot
    have hL0 := Y.pos
    have yok := Y.ok
    unfold afterF at k
    generalize wayL ws n p N = ps at *
    simp only at k
    generalize (totalF ps (0, false)).1 = L at *
    generalize (totalF ps (0, false)).2 = tt at *
    refine ⟨_, rfl, _, rfl, _, _, rfl, ⟨hL0, PyProof.noPylong_of_log2 (cdivB (i := 0) hL0 hL).2⟩, fun d hd => ?_⟩
    generalize hh3 : upd _ d _ = H3; obtain ⟨e3, t3⟩ := upd_facts hd hh3; clear hh3
    have e13 := e12.trans e3
    refine ⟨d, _, rfl, SqT.of t3, rfl, _, _, rfl, _, _, rfl, rfl, ?_⟩
    have hl := paired_len hx
    have r0 := Int.emod_nonneg R (show L ≠ 0 by omega)
    have r1 := Int.emod_lt_of_pos R hL0
    have loop : ∀ (D : Ends) (f : Bool), D.rt = Q → (tt && decide (R / L % 2 = 1)) = f →
        tSeq (tFor (iList K (tVar 4)) (gTup K 4 (gCons (gName 10) (gCons (gName 11) (gCons (gName 12) (gCons (gName 13) gNil))))) (tSeq (tIfS (tTest (tOp (rI0 fun i j => V.bl (decide (i < j))) (tVar 8) (tVar 12))) (tRet (tTup (tCons (tOp (rI0 fun i j => V.int (i + j)) (tVar 10) (tOp (rI CMulW fun i j => V.int (i * j)) (tVar 11) (tVar 8))) (tCons (tVar 9) tNil)))) tNext)
          (tSeq (tAug 8 (tVar 12) (ipI fun i j => i - j)) (tAsg (tOp rNe (tVar 9) (tVar 13)) (gName 9))))) (tRet (tTup (tCons (tVar 2) (tCons (tVar 9) tNil)))) D
        [some v, some (.int n), some (.int p), some (.int R), some (.ref a), some (.int L), some (.bl tt), some (.int (R / L)), some (.int (R % L)), some (.bl f), none, none, none, none] H3 := by
      rintro D f rfl hf
      rw [hf] at k
      have eg : Ex H1 H3 := e2.trans e3
      refine ⟨_, rfl, a, rfl, ⟨xs, SqL.of (eg _ _ ha)⟩, for_it (walk_list (K := K) (a := a) (xs := xs)) (fun i σ H' => Ex H3 H' ∧ ∃ (ah : Int) (f : Bool) (b1 b2 b3 b4 : Option V), 0 ≤ ah ∧ ah < L ∧ σ = [some v, some (.int n), some (.int p), some (.int R), some (.ref a), some (.int L), some (.bl tt), some (.int (R / L)), some (.int ah), some (.bl f), b1, b2, b3, b4] ∧ foundF p (ps.drop i) ah f = foundF p ps (R % L) (tt && decide (R / L % 2 = 1)))
        ⟨Ex.refl _, R % L, f, _, _, _, _, r0, r1, rfl, by rw [hf] <;> rfl⟩ (fun i σ H' _ h => SqL.of (h.1 _ _ (eg _ _ ha))) (fun i y σ H4 H5 hi hP hy => ?_) (fun σ H4 hP => ?_)⟩
      · obtain ⟨e4, ah, f, b1, b2, b3, b4, g0, g1, rfl, hs⟩ := hP
        obtain ⟨rfl, hy⟩ := hy
        obtain ⟨x, hx1, hx2⟩ := paired_get hx hy
        have xo := yok x (List.mem_of_getElem? hx1)
        obtain ⟨r, rfl, hr1⟩ := hx2.mono (eg.trans e4).n
        rw [drop_of hx1, foundF_cons] at hs
        refine ⟨r, _, rfl, SqT.of hr1, rfl, _, _, rfl, _, _, rfl, _, _, rfl, _, _, rfl, rfl, ?_⟩
        refine ⟨_, rfl, _, rfl, _, _, rfl, rfl, _, rfl, ?_⟩
        by_cases c1 : ah < x.count
        · rw [decide_eq_true c1]
          rw [if_pos c1] at hs
          have cb := xo.count
          refine iteT ⟨_, rfl, _, rfl, _, rfl, _, _, rfl, rfl, cmulB (Nat.lt_trans xo.step (by decide +kernel)) (by omega), _, _, rfl, rfl, _, rfl, (by show 2 ≤ sizeLine; decide), fun p2 n2 => k _ _ ((e13.trans e4).trans (Ex.new n2)) ⟨p2, rfl, ?_⟩⟩
          rw [upd_same, ← hf, ← hs] <;> rfl
        · rw [decide_eq_false c1]
          rw [if_neg c1] at hs
          have c0 := xo.nonneg
          refine iteF ⟨_, rfl, _, rfl, _, _, rfl, rfl, _, rfl, _, rfl, rfl, ?_⟩
          refine ⟨e4, ah - x.count, f != x.turn, some (.int x.first), some (.int x.step), some (.int x.count), some (.bl x.turn), by omega, by omega, ?_, hs⟩
          rw [← ne_bl] <;> rfl
      · obtain ⟨e4, ah, f, b1, b2, b3, b4, g0, g1, rfl, hs⟩ := hP
        rw [hl, List.drop_length] at hs
        have hs : (p, f) = _ := hs
        refine ⟨_, rfl, _, rfl, (by show 2 ≤ sizeLine; decide), fun p2 n2 => k _ _ ((e13.trans e4).trans (Ex.new n2)) ⟨p2, rfl, ?_⟩⟩
        rw [upd_same, ← hf, ← hs] <;> rfl
    refine ⟨_, rfl, _, rfl, ?_⟩
    cases tt with
    | true =>
      refine iteT ⟨_, rfl, _, _, rfl, rfl, (show (0 : Int) < 2 by decide), rfl, ?_⟩
      rw [dec_int]
      exact loop _ _ rfl rfl
    | false => exact iteF (loop _ _ rfl rfl)
def sp_after : Sp := fun vs H Q _ => ∃ v ws n p R N, vs = [v, .int n, .int p, .int R] ∧ WdAt K H v ws ∧ BigOk ws n ∧ 0 ≤ p ∧ p < n ∧ 0 ≤ R ∧ R ≤ 10 ^ 30 ∧ TrkOk ws n p N ∧ ∀ v' H', Ex H H' → PairAt H' v' (afterF (wayL ws n p N) p R) → Q v' H'
theorem ok_after (T : Tx w K mg) : FnR P w K mg base CX0 13 (He.ga K "after") (sp_after (K := K)) := by
  refine mkR T.d_after sc_after (fun _ _ _ _ _ _ us hl => match us, hl with | [_, _, _, _], _ => rfl) (fun vs H Q E h => ?_) (fun cdv A outer s H vs Q E hr h => ?_)
  · obtain ⟨v, ws, n, p, R, N, rfl, _⟩ := h
    rfl
  · obtain ⟨v, ws, n, p, R, N, rfl, hw, B, hp0, hp1, hR0, hR1, Y, k⟩ := h
    exact ⟨_, (pss_cons (ps_expr (c_call (ok_need_spot T) (hr.mono (by decide)) (by rfl) T.g_need_spot (kp_of T.d_need_spot) (pa_cons (pv 1) (pa_cons (pv 2) pa_nil)))) (pss_cons (ps_expr (c_call (ok_need_rounds T) (hr.mono (by decide)) (by rfl) T.g_need_rounds (kp_of T.d_need_rounds) (pa_cons (pv 3) pa_nil))) (pss_one (ps_ret (c_call (ok_found_after T) (hr.mono (by decide)) (by rfl) T.g_found_after (kp_of T.d_found_after) (pa_cons (pv 0) (pa_cons (pv 1) (pa_cons (pv 2) (pa_cons (pv 3) pa_nil))))))))), _, rfl, _, rfl, _, _, rfl, hp0, hp1, B.n2, _, rfl, _, rfl, by omega, hR1, _, rfl, _, rfl, _, rfl, _, rfl, _, ws, n, p, R, N, rfl, hw, B, hp0, hp1, Y, k⟩
end
end Pp

set_option Elab.async false
set_option linter.all false
set_option maxRecDepth 100000
set_option maxHeartbeats 4000000
/-! wish -/
namespace Pp
open PySem PySem.Spec PyProof.Rows L2
def lcmF : Int → List Int → Int
  | L, [] => L
  | L, m :: r => lcmF (L * (m / (Int.gcd L m : Nat))) r
section
variable {P : Program} {w : World} {K : PySem.W.Frag} {mg : Str → Option Value} {base : Heap}
theorem PrAt.n {H H' : Hp} (e : En H H') {v : V} {r m : Int} (h : PrAt H v r m) : PrAt H' v r m := let ⟨p, h1, h2⟩ := h; ⟨p, h1, e _ _ h2 rfl⟩
theorem prs_dp {R : Int} {H : Hp} : ∀ {vs : List V} {l : List Wt}, Paired (fun v (x : Wt) => PrAt H v (R % x.m) x.m) vs l → DpAll K H vs (l.map fun x => .tuple [.int (R % x.m), .int x.m])
  | _, _, .nil => .nil
  | _, _, .cons ⟨p, h1, h2⟩ t => .cons (h1 ▸ .tup (SqT.of h2) (.cons (.int _) (.cons (.int _) .nil))) (prs_dp t)
theorem prs_ok (R : Int) : ∀ (l : List Wt), PyData.canLayAll0 (l.map fun x => .tuple [.int (R % x.m), .int x.m]) = true
  | [] => rfl
  | a :: l => by
    rw [List.map_cons, PyData.canLayAll0, prs_ok R l]
    simp [PyData.canLay0, PyData.canLayAll0]
theorem prs_depth (R : Int) : ∀ (l : List Wt), PyData.depthAll (l.map fun x => .tuple [.int (R % x.m), .int x.m]) ≤ 2
  | [] => by simp [PyData.depthAll]
  | a :: l => by
    have := prs_depth R l
    rw [List.map_cons]
    simp [PyData.depthAll, PyData.depth]
    omega
theorem prs_shaped (R : Int) (l : List Wt) : SeqAt.shaped (.list (l.map fun x => .tuple [.int (R % x.m), .int x.m])) = true := by
  show ((PyData.list (l.map fun x => .tuple [.int (R % x.m), .int x.m])).canLay0 && decide ((PyData.list (l.map fun x => .tuple [.int (R % x.m), .int x.m])).depth ≤ 64)) = true
  have h1 := prs_ok R l
  have h2 := prs_depth R l
  rw [PyData.canLay0, h1, Bool.true_and, decide_eq_true_eq, PyData.depth]
  omega
theorem prs_noNone (R : Int) : ∀ (l : List Wt), ((l.map fun x => PyData.tuple [.int (R % x.m), .int x.m]).any fun z => PyData.eqv z .none) = false
  | [] => rfl
  | a :: l => by
    rw [List.map_cons, List.any_cons, prs_noNone R l]
    simp [PyData.eqv]
def sp_wish : Sp := fun vs H Q _ => ∃ v ws n wl xs wants R, vs = [v, .int n, .ref wl] ∧ WdAt K H v ws ∧ BigOk ws n ∧ H wl = some (.lst xs) ∧ Paired (WtAt H) xs wants ∧ (∀ x ∈ wants, WtOk ws n R x) ∧ wants.length ≤ 6 ∧
  ∀ p H', Ex H H' → H' p = some (.tup [.str "rounds", .int (R % lcmF 1 (wants.map Wt.m))]) → Q (.ref p) H'
theorem ok_wish (T : Tx w K mg) : FnR P w K mg base CX0 13 (He.ga K "wish") (sp_wish (K := K)) := by
  refine mkR T.d_wish sc_wish (fun _ _ _ _ _ _ us hl => match us, hl with | [_, _, _], _ => rfl) (fun vs H Q E h => ?_) (fun cdv A outer s H vs Q E hr h => ?_)
  · obtain ⟨v, ws, n, wl, xs, wants, R, rfl, _⟩ := h
    rfl
  · obtain ⟨v, ws, n, wl, xs, wants, R, rfl, hw, B, hl, hx, X, hlen, k⟩ := h
    have lx := paired_len hx
    have b1 := B.n1
    refine ⟨_, (pss_cons (ps_expr (c_call (ok_need_size T) (hr.mono (by decide)) (by rfl) T.g_need_size (kp_of T.d_need_size) (pa_cons (pv 1) pa_nil))) (pss_cons (ps_for PassesOwn.never rfl (pi_list (pv 2)) (pg_tup (by rfl) (pgs_cons (pg_name (i := 3) sc_wish.nd rfl (Or.inl rfl)) (pgs_cons (pg_name (i := 4) sc_wish.nd rfl (Or.inl rfl)) (pgs_cons (pg_name (i := 5) sc_wish.nd rfl (Or.inl rfl)) pgs_nil)))) (pss_cons (ps_expr (c_call (ok_need_place T) (hr.mono (by decide)) (by rfl) T.g_need_place (kp_of T.d_need_place) (pa_cons (pv 3) (pa_cons (pv 1) pa_nil)))) (pss_one (ps_expr (c_call (ok_need_place T) (hr.mono (by decide)) (by rfl) T.g_need_place (kp_of T.d_need_place) (pa_cons (pv 4) (pa_cons (pv 1) pa_nil))))))) (pss_cons (ps_setLc (i := 6) (own := [("place", 3), ("goal", 4), ("turned", 5)]) (g := gTup K 3 (gCons (gName 3) (gCons (gName 4) (gCons (gName 5) gNil)))) (by rfl) sc_wish.nd rfl rfl (sw_true rfl rfl rfl (by decide +kernel)) (pi_list (pv 2)) (blkOk_by (own := [("place", 3), ("goal", 4), ("turned", 5)]) (N := n_wish) (sc := defScope s_wish) (by decide +kernel)) (fun _ _ _ _ _ => (pg_tup (by rfl) (pgs_cons (pg_name (i := 3) sc_wish.nd rfl (Or.inl rfl)) (pgs_cons (pg_name (i := 4) sc_wish.nd rfl (Or.inl rfl)) (pgs_cons (pg_name (i := 5) sc_wish.nd rfl (Or.inl rfl)) pgs_nil))))) (fun _ _ _ _ _ => pts_nil) (fun _ _ _ _ _ => (c_call (ok_met T) (hr.mono (by decide)) (by rfl) T.g_met (kp_of T.d_met) (pa_cons (pv 0) (pa_cons (pv 1) (pa_cons (pe_tup (pa_cons (pv 3) (pa_cons (pv 4) (pa_cons (pv 5) pa_nil)))) pa_nil)))))) (pss_cons (ps_if (pt_cmpR (op_inD (units65 hr)) pe_non (pv 6) (by rfl)) (pss_one (ps_ret (pe_tup (pa_cons pe_str (pa_cons (pe_bm PySem.F.plainAttrs_list PySem.F.slot_list_index PySem.F.type_list_index mt_index (pv 6) (pa_cons pe_non pa_nil)) pa_nil))))) pss_nil) (pss_cons (ps_for PassesOwn.never rfl (pi_enum (by rfl) T.f_enumerate (pa_cons (pv 6) pa_nil)) (pg_tup (by rfl) (pgs_cons (pg_name (i := 7) sc_wish.nd rfl (Or.inl rfl)) (pgs_cons (pg_name (i := 8) sc_wish.nd rfl (Or.inl rfl)) pgs_nil))) (pss_one (ps_for PassesOwn.never rfl (pi_range2 (by rfl) T.f_range (pa_cons (pe_op op_add (pv 7) pe_int) (pa_cons (pe_callB call_len_seq (by rfl) T.f_len (by decide +kernel) (pa_cons (pv 6) pa_nil)) pa_nil))) (pg_name (i := 9) sc_wish.nd rfl (Or.inl rfl)) (pss_one (ps_if (pt_not (pt_val (c_call (ok_agree T) (hr.mono (by decide)) (by rfl) T.g_agree (kp_of T.d_agree) (pa_cons (pv 8) (pa_cons (pe_ix ix_list (pv 6) (pv 9) (fun _ _ => rfl)) pa_nil))))) (pss_one (ps_ret (pe_tup (pa_cons pe_str (pa_cons (pv 7) (pa_cons (pv 9) pa_nil)))))) pss_nil))))) (pss_cons (ps_set (i := 10) sc_wish.nd rfl (Or.inl rfl) (pe_tup (pa_cons pe_int (pa_cons pe_int pa_nil)))) (pss_cons (ps_for PassesOwn.never rfl (pi_list (pv 6)) (pg_name (i := 11) sc_wish.nd rfl (Or.inl rfl)) (pss_one (ps_set (i := 10) sc_wish.nd rfl (Or.inl rfl) (c_call (ok_joined T) (hr.mono (by decide)) (by rfl) T.g_joined (kp_of T.d_joined) (pa_cons (pv 10) (pa_cons (pv 11) pa_nil)))))) (pss_one (ps_ret (pe_tup (pa_cons pe_str (pa_cons (pe_ix ix_tup (pv 10) pe_int (fun _ _ => rfl)) pa_nil)))))))))))), ?_⟩
    refine ⟨_, rfl, _, rfl, by omega, B.n2, ?_⟩
    refine ⟨_, rfl, wl, rfl, ⟨xs, SqL.of hl⟩, for_it (walk_list (K := K) (a := wl) (xs := xs)) (fun i σ H' => H' = H ∧ ∃ (a b c : Option V), σ = [some v, some (.int n), some (.ref wl), a, b, c, none, none, none, none, none, none]) ⟨rfl, _, _, _, rfl⟩ (fun i σ H' _ h => by rw [h.1]; exact SqL.of hl) (fun i y σ H3 H4 hi hP hy => ?_) (fun σ H3 hP => ?_)⟩
    · obtain ⟨rfl, a, b, c, rfl⟩ := hP
      obtain ⟨rfl, hy⟩ := hy
      obtain ⟨x, hx1, r, rfl, hr1⟩ := paired_get hx hy
      have xo := X x (List.mem_of_getElem? hx1)
      refine ⟨r, _, rfl, SqT.of hr1, rfl, _, _, rfl, _, _, rfl, _, _, rfl, rfl, ?_⟩
      exact ⟨_, rfl, _, rfl, _, _, rfl, xo.p0, xo.p1, _, rfl, _, rfl, _, _, rfl, xo.g0, xo.g1, rfl, _, _, _, rfl⟩
    · obtain ⟨rfl, a, b, c, rfl⟩ := hP
      have wd0 : Wt := ⟨0, 0, none, 0⟩
      refine ⟨_, rfl, wl, rfl, ⟨xs, SqL.of hl⟩, fun D hD => lcR (walk_list (K := K) (a := wl) (xs := xs)) hD (by omega) (fun H v (x : Wt) => PrAt H v (R % x.m) x.m) (fun i => wants.getD i wd0) (fun _ _ _ _ e h => PrAt.n e h) (fun H' e => SqL.of (e _ _ hl)) (fun i y H4 H5 kk hi e4 yy kq => ?_) (fun acc H4 e4 ha hacc => ?_)⟩
      · obtain ⟨rfl, hy⟩ := yy
        obtain ⟨x, hx1, hx2⟩ := paired_get hx hy
        have xo := X x (List.mem_of_getElem? hx1)
        obtain ⟨r, rfl, hr1⟩ := hx2.mono e4.n
        refine ⟨r, _, rfl, SqT.of hr1, rfl, _, _, rfl, _, _, rfl, _, _, rfl, rfl, rfl, ?_⟩
        refine ⟨_, rfl, _, rfl, _, rfl, _, rfl, _, rfl, (by show 3 ≤ sizeLine; decide), fun p6 n6 => ?_⟩
        generalize hh6 : upd _ p6 _ = H6; obtain ⟨e6, t6⟩ := upd_facts n6 hh6; clear hh6
        refine ⟨_, ws, n, _, x, R, rfl, hw.mono (e4.trans e6).n, B, ⟨p6, rfl, t6⟩, xo, fun v' H7 e7 hv => kq _ _ (e6.trans e7) ?_⟩
        rw [List.getD_eq_getElem?_getD, hx1]
        exact hv
      rw [show (List.range xs.length).map (fun i => wants.getD i wd0) = wants by rw [lx]; exact range_getD wants wd0] at hacc
      have la := paired_len hacc
      refine ⟨_, rfl, .none, wants.map fun x => .tuple [.int (R % x.m), .int x.m], .non, .lst (SqL.of ha) (prs_dp hacc), by decide +kernel, prs_shaped _ _, _, rfl, ?_⟩
      rw [prs_noNone]
      refine iteF ?_
      have la4 := ha
      have hS : SqL K H4 D acc := SqL.of ha
      refine ⟨_, rfl, D, acc, rfl, hS, for_it (walk_enum (K := K) (a := D) (xs := acc)) (fun i σ H' => Ex H4 H' ∧ ∃ (a b c d e f : Option V), σ = [some v, some (.int n), some (.ref wl), a, b, c, some (.ref D), d, e, f, none, none]) ⟨Ex.refl _, _, _, _, _, _, _, rfl⟩ (fun i σ H' _ h => SqL.of (h.1 _ _ ha)) (fun i y σ H5 H6 hi hP hy => ?_) (fun σ H5 hP => ?_)⟩
      · obtain ⟨e5, a, b, c, d, e, f, rfl⟩ := hP
        obtain ⟨tp, u, y', rfl, nt, rfl, hu, hv⟩ := hy
        cases hu
        have e6 := e5.trans (Ex.new nt (o := .tup [V.int (i : Nat), y']))
        obtain ⟨x, hx1, hx2⟩ := paired_get hacc hv
        have xo := X x (List.mem_of_getElem? hx1)
        refine ⟨tp, _, rfl, SqT.of upd_same, rfl, _, _, rfl, _, _, rfl, rfl, ?_⟩
        have hD6 := e6 _ _ ha
        refine ⟨_, rfl, _, _, rfl, rfl, _, rfl, D, acc, rfl, .inl (SqL.of hD6), _, _, rfl, by omega, ?_⟩
        generalize hh6 : upd _ tp _ = H6 at *
        refine for_it walk_range (fun j σ H' => H' = H6 ∧ ∃ f : Option V, σ = [some v, some (.int n), some (.ref wl), a, b, c, some (.ref D), some (.int (i : Nat)), some y', f, none, none]) ⟨rfl, _, rfl⟩ (fun _ _ _ _ _ => trivial) (fun j z σ H7 H8 hj hP hz => ?_) (fun σ H7 hP => ?_)
        · obtain ⟨rfl, f, rfl⟩ := hP
          obtain ⟨rfl, rfl⟩ := hz
          have hlt : i + 1 + j < acc.length := by omega
          obtain ⟨x2, hy1, hy2⟩ := paired_get hacc (List.getElem?_eq_getElem hlt)
          have xo2 := X x2 (List.mem_of_getElem? hy1)
          refine ⟨_, rfl, _, rfl, _, rfl, D, acc, _, acc[i + 1 + j], rfl, rfl, SqL.of hD6, ?_, ?_⟩
          · exact atI_nat (j := i + 1 + j) (List.getElem?_eq_getElem hlt)
          · refine ⟨_, _, R, x.m, x2.m, rfl, xo.m0, xo2.m0, hx2.n e6.n, hy2.n e6.n, _, rfl, iteF ⟨rfl, _, rfl⟩⟩
        · obtain ⟨rfl, f, rfl⟩ := hP
          exact ⟨e6, _, _, _, _, _, _, rfl⟩
      · obtain ⟨e5, a, b, c, d, e, f, rfl⟩ := hP
        refine ⟨(by show 2 ≤ sizeLine; decide), fun p6 n6 => ?_⟩
        generalize hh6 : upd _ p6 _ = H6; obtain ⟨e6, t6⟩ := upd_facts n6 hh6; clear hh6
        have e46 := e5.trans e6
        have ha6 := e46 _ _ ha
        have xb : ∀ x ∈ wants, x.m.natAbs < 2 ^ 101 := fun x hx => by
          have h0 := (X x hx).m0
          have h1 := (X x hx).m1
          have h2 : (2 * 10 ^ 30 : Int) < 2 ^ 101 := by decide +kernel
          omega
        refine ⟨_, rfl, D, rfl, ⟨acc, SqL.of ha6⟩, for_it (walk_list (K := K) (a := D) (xs := acc)) (fun i σ H' => Ex H6 H' ∧ ∃ (p : Addr) (L : Int) (g : Option V), σ = [some v, some (.int n), some (.ref wl), a, b, c, some (.ref D), d, e, f, some (.ref p), g] ∧ PrAt H' (.ref p) (R % L) L ∧ 0 < L ∧ L.natAbs ≤ 2 ^ (101 * i) ∧ lcmF L ((wants.drop i).map Wt.m) = lcmF 1 (wants.map Wt.m))
          ⟨Ex.refl _, p6, 1, none, rfl, ⟨p6, rfl, by rw [t6, Int.emod_one]⟩, by decide, by decide, rfl⟩ (fun i σ H' _ h => SqL.of (h.1 _ _ ha6)) (fun i y σ H7 H8 hi hP hy => ?_) (fun σ H7 hP => ?_)⟩
        · obtain ⟨e7, p, L, g, rfl, hp, L0, Lb, hL⟩ := hP
          obtain ⟨rfl, hy⟩ := hy
          obtain ⟨x, hx1, hx2⟩ := paired_get hacc hy
          have xm := List.mem_of_getElem? hx1
          have xo := X x xm
          have xb1 := xb x xm
          rw [drop_of hx1] at hL
          obtain ⟨g0, g1, g2, u0, v0, gg⟩ := gcd_parts L0 xo.m0
          have i6 : i < 6 := by omega
          have Lb2 : L.natAbs < big := Nat.lt_of_le_of_lt Lb (Nat.lt_of_le_of_lt (Nat.pow_le_pow_right (by decide) (show 101 * i ≤ 101 * 6 by omega)) (by decide +kernel))
          have xb2 : x.m.natAbs < big := Nat.lt_trans xb1 (by decide +kernel)
          refine ⟨_, rfl, _, rfl, _, _, R, L, x.m, rfl, L0, xo.m0, Lb2, xb2, hp, hx2.n (e46.trans e7).n, fun v' H9 e9 hv => ?_⟩
          obtain ⟨r9, rfl, hr9⟩ := hv
          refine ⟨e7.trans e9, r9, _, _, rfl, ⟨r9, rfl, hr9⟩, Int.mul_pos L0 v0, ?_, hL⟩
          rw [Int.natAbs_mul, show 101 * (i + 1) = 101 * i + 101 by omega, Nat.pow_add]
          refine Nat.mul_le_mul Lb ?_
          have := Int.ediv_le_self (a := x.m) (Int.gcd L x.m : Nat) (by have := xo.m0; omega)
          have h9 : (x.m / ((Int.gcd L x.m : Nat) : Int)).natAbs ≤ x.m.natAbs := by omega
          omega
        · obtain ⟨e7, p, L, g, rfl, hp, L0, Lb, hL⟩ := hP
          rw [la, List.drop_length] at hL
          have hL : L = _ := hL
          obtain ⟨p9, ep9, hp⟩ := hp
          cases ep9
          refine ⟨_, rfl, p, _, 0, _, rfl, rfl, SqT.of hp, atI_nat (j := 0) rfl, (by show 2 ≤ sizeLine; decide), fun p2 n2 => k p2 _ (((e4.trans e46).trans e7).trans (Ex.new n2)) ?_⟩
          rw [upd_same, hL]
end
end Pp

set_option Elab.async false
set_option linter.all false
set_option maxRecDepth 100000
set_option maxHeartbeats 4000000
/-! the law's bag -/
namespace Pp
open PySem PySem.Spec PyProof.Rows L2
def BagAt (H : Hp) (bg l : Addr) : Prop := ∃ (idx cur salt : Int) (cells : List Int), H bg = some (.lst [.ref l, .int idx, .int cur, .int salt]) ∧ H l = some (.lst (cells.map V.int)) ∧ 0 ≤ idx ∧ 0 ≤ cur ∧ 0 ≤ salt ∧ salt < 2147483647 ∧ cells.length ≤ 1000
theorem BagAt.mono {H H' : Hp} (e : Ex H H') {bg l : Addr} (h : BagAt H bg l) : BagAt H' bg l := let ⟨i, c, s, cs, h1, h2, r⟩ := h; ⟨i, c, s, cs, e _ _ h1, e _ _ h2, r⟩
theorem BagAt.lst {H : Hp} {bg l : Addr} (h : BagAt H bg l) : ∃ xs, H bg = some (.lst xs) := let ⟨_, _, _, _, h1, _⟩ := h; ⟨_, h1⟩
theorem BagAt.n {H H' : Hp} {bg l : Addr} (h : BagAt H bg l) (e : ExX bg H H') : En H H' := fun a o ha hl => e a o (fun z => by
  obtain ⟨xs, hx⟩ := h.lst
  rw [z, hx] at ha
  cases ha
  cases hl) ha
theorem big_of {i : Int} (h : i.natAbs < 2 ^ 100) : i.natAbs < big := Nat.lt_trans h (by decide +kernel)
section
variable {P : Program} {w : World} {K : PySem.W.Frag} {mg : Str → Option Value} {base : Heap}
def sp_L_pull : Sp := fun vs H Q _ => ∃ bg l m, vs = [.ref bg, .int m] ∧ BagAt H bg l ∧ 0 < m ∧ m.natAbs < big ∧ ∀ r H', ExX bg H H' → BagAt H' bg l → 0 ≤ r → r < m → Q (.int r) H'
theorem ok_L_pull (T : Tx w K mg) : FnR P w K mg base CX0 1 (He.ga K "_law_pull") (sp_L_pull) := by
  refine mkR T.d_L_pull sc_L_pull (fun _ _ _ _ _ _ us hl => match us, hl with | [_, _], _ => rfl) (fun vs H Q E h => ?_) (fun cdv A outer s H vs Q E hr h => ?_)
  · obtain ⟨bg, l, m, rfl, _⟩ := h
    rfl
  · obtain ⟨bg, l, m, rfl, ⟨idx, cur, salt, cells, hb, hl, i0, c0, s0, s1, cl⟩, m0, mb, k⟩ := h
    refine ⟨_, (pss_cons (ps_if (PW.pt (pw_and (pt_cmpR op_eq (pe_ix ix_list (pv 0) pe_int (fun _ _ => rfl)) pe_int (nomark _)) (pw_and1 (pt_cmpR op_lt (pe_ix ix_list (pv 0) pe_int (fun _ _ => rfl)) (pe_callB call_len_seq (by rfl) T.f_len (by decide +kernel) (pa_cons (pe_ix ix_list (pv 0) pe_int (fun _ _ => rfl)) pa_nil)) (nomark _))))) (pss_cons (ps_set (i := 2) sc_L_pull.nd rfl (Or.inl rfl) (pe_ix ix_list (pe_ix ix_list (pv 0) pe_int (fun _ _ => rfl)) (pe_ix ix_list (pv 0) pe_int (fun _ _ => rfl)) (fun _ _ => rfl))) (pss_cons (ps_asg (pe_op op_add (pe_ix ix_list (pv 0) pe_int (fun _ _ => rfl)) pe_int) (pg_sub (pv 0) pe_int set_list)) (pss_one (ps_if (pt_cmpR op_ge (pv 2) (pe_op op_pow pe_int pe_int) (nomark _)) (pss_one (ps_asg (pv 2) (pg_sub (pv 0) pe_int set_list))) (pss_one (ps_asg (pe_op op_mod (pe_callTy call_intR (by rfl) T.f_int (by decide +kernel) (pa_cons (pe_op op_add (pe_op op_add (pe_op op_mulW (pe_ix ix_list (pv 0) pe_int (fun _ _ => rfl)) pe_int) (pe_op op_mulW (pe_op op_mod (pe_callTy call_intR (by rfl) T.f_int (by decide +kernel) (pa_cons (pv 2) pa_nil)) pe_int) pe_int)) pe_int) pa_nil)) pe_int) (pg_sub (pv 0) pe_int set_list))))))) pss_nil) (pss_cons (ps_if (pt_cmpR op_gt (pe_ix ix_list (pv 0) pe_int (fun _ _ => rfl)) pe_int (nomark _)) (pss_cons (ps_set (i := 3) sc_L_pull.nd rfl (Or.inl rfl) (pe_op op_mod (pe_callTy call_intR (by rfl) T.f_int (by decide +kernel) (pa_cons (pe_ix ix_list (pv 0) pe_int (fun _ _ => rfl)) pa_nil)) (pv 1))) (pss_cons (ps_asg (pe_op op_fdivW (pe_ix ix_list (pv 0) pe_int (fun _ _ => rfl)) (pv 1)) (pg_sub (pv 0) pe_int set_list)) (pss_one (ps_ret (pv 3))))) pss_nil) (pss_cons (ps_set (i := 4) sc_L_pull.nd rfl (Or.inl rfl) (pe_ix ix_list (pv 0) pe_int (fun _ _ => rfl))) (pss_cons (ps_asg (pe_op op_mod (pe_callTy call_intR (by rfl) T.f_int (by decide +kernel) (pa_cons (pe_op op_add (pe_op op_add (pe_op op_mulW (pv 4) (pv 4)) (pe_op op_mulW (pv 4) pe_int)) pe_int) pa_nil)) pe_int) (pg_sub (pv 0) pe_int set_list)) (pss_one (ps_ret (pe_op op_mod (pe_callTy call_intR (by rfl) T.f_int (by decide +kernel) (pa_cons (pe_op op_add (pe_op op_fdivW (pe_ix ix_list (pv 0) pe_int (fun _ _ => rfl)) pe_int) (pe_op op_mulW (pe_op op_mod (pe_callTy call_intR (by rfl) T.f_int (by decide +kernel) (pa_cons (pe_ix ix_list (pv 0) pe_int (fun _ _ => rfl)) pa_nil)) pe_int) pe_int)) pa_nil)) (pv 1)))))))), ?_⟩
    have hlb : l ≠ bg := fun z => by
      rw [z, hb] at hl
      cases cells with
      | nil => cases hl
      | cons a r => cases hl
    have keep : ∀ {H2 : Hp} {i c s : Int}, ExX bg H H2 → H2 bg = some (.lst [.ref l, .int i, .int c, .int s]) → 0 ≤ i → 0 ≤ c → 0 ≤ s → s < 2147483647 → BagAt H2 bg l := fun e h a b c d => ⟨_, _, _, cells, h, e _ _ hlb hl, a, b, c, d, cl⟩
    have stage : ∀ (D : Ends) (H2 : Hp) (i c s : Int) (z : Option V), D.rt = Q → ExX bg H H2 → H2 bg = some (.lst [.ref l, .int i, .int c, .int s]) → 0 ≤ i → 0 ≤ c → 0 ≤ s → s < 2147483647 →
        tSeq (tIfS (tTest (tOp (rI0 fun i j => V.bl (decide (j < i))) (tOp (rIxL K) (tVar 0) (tC (V.int 2))) (tC (V.int 0)))) (tSeq (tAsg (tOp (rI (fun _ j => 0 < j) fun i j => V.int (i % j)) (tCB rInt1 (tCons (tOp (rIxL K) (tVar 0) (tC (V.int 2))) tNil)) (tVar 1)) (gName 3)) (tSeq (tAsg (tOp (rI CDivW fun i j => V.int (i / j)) (tOp (rIxL K) (tVar 0) (tC (.int 2))) (tVar 1)) (gSub (tVar 0) (tC (.int 2)) rSetL)) (tRet (tVar 3)))) tNext) (tSeq (tAsg (tOp (rIxL K) (tVar 0) (tC (.int 3))) (gName 4))
          (tSeq (tAsg (tOp (rI (fun _ j => 0 < j) fun i j => V.int (i % j)) (tCB rInt1 (tCons (tOp (rI0 fun i j => V.int (i + j)) (tOp (rI0 fun i j => V.int (i + j)) (tOp (rI CMulW fun i j => V.int (i * j)) (tVar 4) (tVar 4)) (tOp (rI CMulW fun i j => V.int (i * j)) (tVar 4) (tC (.int 48271)))) (tC (.int 1013904223))) tNil)) (tC (.int 2147483647))) (gSub (tVar 0) (tC (.int 3)) rSetL))
            (tRet (tOp (rI (fun _ j => 0 < j) fun i j => V.int (i % j)) (tCB rInt1 (tCons (tOp (rI0 fun i j => V.int (i + j)) (tOp (rI CDivW fun i j => V.int (i / j)) (tOp (rIxL K) (tVar 0) (tC (.int 3))) (tC (.int 97))) (tOp (rI CMulW fun i j => V.int (i * j)) (tOp (rI (fun _ j => 0 < j) fun i j => V.int (i % j)) (tCB rInt1 (tCons (tOp (rIxL K) (tVar 0) (tC (.int 3))) tNil)) (tC (.int 8191))) (tC (.int 67)))) tNil)) (tVar 1))))) D [some (.ref bg), some (.int m), z, none, none] H2 := by
      rintro D H2 i c s z rfl e2 h2 i0 c0 s0 s1
      refine ⟨_, rfl, bg, _, 2, _, rfl, rfl, SqL.of h2, atI_nat (j := 2) rfl, _, _, rfl, rfl, _, rfl, ?_⟩
      by_cases cc : 0 < c
      · rw [decide_eq_true cc]
        refine iteT ⟨_, rfl, bg, _, 2, _, rfl, rfl, SqL.of h2, atI_nat (j := 2) rfl, .inl ⟨_, rfl, _, rfl, _, _, rfl, rfl, m0, ?_⟩⟩
        refine ⟨_, rfl, bg, _, 2, _, rfl, rfl, SqL.of h2, atI_nat (j := 2) rfl, _, rfl, _, _, rfl, rfl, cdivB m0 mb, _, rfl, bg, _, _, 2, rfl, rfl, h2, rfl, ?_⟩
        exact ⟨_, rfl, k _ _ (e2.trans ExX.put) (keep (e2.trans ExX.put) upd_same i0 (Int.ediv_nonneg c0 (Int.le_of_lt m0)) s0 s1) (Int.emod_nonneg _ (by omega)) (Int.emod_lt_of_pos _ m0)⟩
      · rw [decide_eq_false cc]
        refine iteF ⟨_, rfl, bg, _, 3, _, rfl, rfl, SqL.of h2, atI_nat (j := 3) rfl, ?_⟩
        have bs : s.natAbs < big := big_of (by omega)
        have sn : s.natAbs * s.natAbs < 2147483647 * 2147483647 := Nat.mul_lt_mul'' (by omega) (by omega)
        refine ⟨_, rfl, _, rfl, _, _, rfl, rfl, cmulB bs bs, _, rfl, _, _, rfl, rfl, cmulB bs (by decide +kernel), _, _, rfl, rfl, _, _, rfl, rfl, .inl ⟨_, rfl, _, _, rfl, rfl, (show (0 : Int) < 2147483647 by decide), ?_⟩⟩
        have m1 := Int.emod_nonneg (s * s + s * 48271 + 1013904223) (show (2147483647 : Int) ≠ 0 by decide)
        have m2 := Int.emod_lt_of_pos (s * s + s * 48271 + 1013904223) (show (0 : Int) < 2147483647 by decide)
        refine ⟨_, rfl, bg, _, _, 3, rfl, rfl, h2, rfl, ?_⟩
        generalize hh3 : upd H2 bg _ = H3
        have h3 : H3 bg = some (.lst [.ref l, .int i, .int c, .int ((s * s + s * 48271 + 1013904223) % 2147483647)]) := by
          rw [← hh3]
          exact upd_same
        have e3 : ExX bg H H3 := by
          rw [← hh3]
          exact e2.trans ExX.put
        clear hh3
        generalize (s * s + s * 48271 + 1013904223) % 2147483647 = s' at *
        have q1 := Int.emod_nonneg s' (show (8191 : Int) ≠ 0 by decide)
        have q2 := Int.emod_lt_of_pos s' (show (0 : Int) < 8191 by decide)
        refine ⟨_, rfl, bg, _, 3, _, rfl, rfl, SqL.of h3, atI_nat (j := 3) rfl, _, _, rfl, rfl, cdivB (by decide) (by decide +kernel), _, rfl, bg, _, 3, _, rfl, rfl, SqL.of h3, atI_nat (j := 3) rfl, .inl ⟨_, rfl, _, _, rfl, rfl, (show (0 : Int) < 8191 by decide), _, _, rfl, rfl, cmulB2 (by omega) (by decide), _, _, rfl, rfl, .inl ⟨_, rfl, _, rfl, _, _, rfl, rfl, m0, ?_⟩⟩⟩
        exact k _ _ e3 (keep e3 h3 i0 c0 m1 m2) (Int.emod_nonneg _ (by omega)) (Int.emod_lt_of_pos _ m0)
    refine ⟨_, rfl, bg, _, 2, _, rfl, rfl, SqL.of hb, atI_nat (j := 2) rfl, rfl, _, rfl, ?_⟩
    rw [dec_int]
    by_cases c1 : cur = 0
    · rw [decide_eq_true c1]
      refine iteT ⟨_, rfl, bg, _, 1, _, rfl, rfl, SqL.of hb, atI_nat (j := 1) rfl, _, rfl, bg, _, 0, _, rfl, rfl, SqL.of hb, atI_nat (j := 0) rfl, l, _, rfl, .inl (SqL.of hl), _, _, rfl, rfl, _, rfl, ?_⟩
      by_cases c2 : idx < ((cells.map V.int).length : Nat)
      · rw [decide_eq_true c2]
        rw [List.length_map] at c2
        obtain ⟨j, rfl⟩ := Int.eq_ofNat_of_zero_le i0
        have hj : j < cells.length := by omega
        have hv : (cells.map V.int)[j]? = some (V.int cells[j]) := by simp [hj]
        refine iteT ⟨_, rfl, bg, _, 0, _, rfl, rfl, SqL.of hb, atI_nat (j := 0) rfl, _, rfl, bg, _, 1, _, rfl, rfl, SqL.of hb, atI_nat (j := 1) rfl, l, _, _, _, rfl, rfl, SqL.of hl, atI_nat hv, ?_⟩
        generalize cells[j] = ce at *
        refine ⟨_, rfl, bg, _, 1, _, rfl, rfl, SqL.of hb, atI_nat (j := 1) rfl, _, _, rfl, rfl, _, rfl, bg, _, _, 1, rfl, rfl, hb, rfl, ?_⟩
        generalize hh3 : upd H bg _ = H3
        have h3 : H3 bg = some (.lst [.ref l, .int ((j : Nat) + 1), .int cur, .int salt]) := by
          rw [← hh3]
          exact upd_same
        have e3 : ExX bg H H3 := by
          rw [← hh3]
          exact ExX.put
        clear hh3
        refine ⟨_, rfl, _, _, rfl, rfl, ⟨by decide, by decide, by decide⟩, _, _, rfl, rfl, _, rfl, ?_⟩
        by_cases c3 : (10 : Int) ^ (18 : Int).toNat ≤ ce
        · rw [decide_eq_true c3]
          have c4 : 0 ≤ ce := by
            have : (0 : Int) ≤ 10 ^ (18 : Int).toNat := by decide
            omega
          refine iteT ⟨_, rfl, _, rfl, bg, _, _, 2, rfl, rfl, h3, rfl, ?_⟩
          exact stage _ _ _ _ _ _ rfl (e3.trans ExX.put) upd_same (by omega) c4 s0 s1
        · rw [decide_eq_false c3]
          have q1 := Int.emod_nonneg ce (show (2147483579 : Int) ≠ 0 by decide)
          have q2 := Int.emod_lt_of_pos ce (show (0 : Int) < 2147483579 by decide)
          refine iteF ⟨_, rfl, bg, _, 3, _, rfl, rfl, SqL.of h3, atI_nat (j := 3) rfl, _, _, rfl, rfl, cmulB (big_of (by omega)) (by decide +kernel), _, rfl, .inl ⟨_, rfl, _, _, rfl, rfl, (show (0 : Int) < 2147483579 by decide), _, _, rfl, rfl, cmulB (big_of (by omega)) (by decide +kernel), _, _, rfl, rfl, _, _, rfl, rfl, .inl ⟨_, rfl, _, _, rfl, rfl, (show (0 : Int) < 2147483647 by decide), ?_⟩⟩⟩
          have m1 := Int.emod_nonneg (salt * 40692 + ce % 2147483579 * 69621 + 11) (show (2147483647 : Int) ≠ 0 by decide)
          have m2 := Int.emod_lt_of_pos (salt * 40692 + ce % 2147483579 * 69621 + 11) (show (0 : Int) < 2147483647 by decide)
          refine ⟨_, rfl, bg, _, _, 3, rfl, rfl, h3, rfl, ?_⟩
          exact stage _ _ _ _ _ _ rfl (e3.trans ExX.put) upd_same (by omega) c0 m1 m2
      · rw [decide_eq_false c2]
        exact iteF ((stage _ _ _ _ _ _ rfl (Ex.refl H).x hb i0 c0 s0 s1))
    · rw [decide_eq_false c1]
      exact iteF (iteF (stage _ _ _ _ _ _ rfl (Ex.refl H).x hb i0 c0 s0 s1))

/-- n items of a script: a bag -/
def sp_L_bag : Sp := fun vs H Q _ => ∃ (a : Addr) (ns : List Int), vs = [.ref a] ∧ SqL K H a (ns.map V.int) ∧ ∀ bg l H', Ex H H' → BagAt H' bg l → H bg = none → Q (.ref bg) H'
theorem ok_L_bag (T : Tx w K mg) : FnR P w K mg base CX0 1 (He.ga K "_law_bag") (sp_L_bag (K := K)) := by
  refine mkR T.d_L_bag sc_L_bag (fun _ _ _ _ _ _ us hl => match us, hl with | [_], _ => rfl) (fun vs H Q E h => ?_) (fun cdv A outer s H vs Q E hr h => ?_)
  · obtain ⟨a, ns, rfl, _⟩ := h
    rfl
  · obtain ⟨a, ns, rfl, ha, k⟩ := h
    refine ⟨_, (pss_cons (ps_set (i := 1) sc_L_bag.nd rfl (Or.inl rfl) pe_int) (pss_cons (ps_for PassesOwn.never rfl (pi_list (pe_slice sl_list (pv 0) po_none (po_some pe_int))) (pg_name (i := 2) sc_L_bag.nd rfl (Or.inl rfl)) (pss_one (ps_set (i := 1) sc_L_bag.nd rfl (Or.inl rfl) (pe_op op_mod (pe_callTy call_intR (by rfl) T.f_int (by decide +kernel) (pa_cons (pe_op op_add (pe_op op_add (pe_op op_mulW (pv 1) pe_int) (pe_op op_mod (pe_callTy call_intR (by rfl) T.f_int (by decide +kernel) (pa_cons (pv 2) pa_nil)) pe_int)) pe_int) pa_nil)) pe_int)))) (pss_one (ps_ret (pe_lst (pa_cons (pe_callTy call_list_of (by rfl) T.f_list (by decide +kernel) (pa_cons (pe_slice sl_list (pv 0) po_none (po_some pe_int)) pa_nil)) (pa_cons pe_int (pa_cons pe_int (pa_cons (pv 1) pa_nil))))))))), ?_⟩
    have ec : ∀ xs : List V, cutV xs none (some (63 : Int)) = xs.take 63 := by
      intro xs
      unfold cutV
      rw [show HT.sIx xs.length xs.length (some (63 : Int)) = min 63 xs.length from HT.sIx_nat _ _ 63, HT.sIx_none]
      show (xs.take (min 63 xs.length - 0)) = _
      rw [Nat.sub_zero, List.take_eq_take_min, Nat.min_comm, List.take_eq_take_min (i := 63), Nat.min_comm]
      congr 1
      omega
    refine ⟨_, rfl, 63, rfl, a, _, rfl, ha, fun p1 n1 => ?_⟩
    rw [ec, ← List.map_take]
    generalize hh1 : upd _ p1 _ = H1; obtain ⟨e1, t1⟩ := upd_facts n1 hh1; clear hh1
    have cl : (ns.take 63).length ≤ 63 := by
      rw [List.length_take]
      omega
    generalize hcells : ns.take 63 = cells at *
    refine ⟨p1, rfl, ⟨_, SqL.of t1⟩, for_it (walk_list (K := K) (a := p1) (xs := cells.map V.int)) (fun i σ H' => H' = H1 ∧ ∃ (s : Int) (z : Option V), 0 ≤ s ∧ s < 2147483647 ∧ σ = [some (.ref a), some (.int s), z]) ⟨rfl, _, _, by decide, by decide, rfl⟩ (fun i σ H' _ h => by rw [h.1]; exact SqL.of t1) (fun i y σ H3 H4 hi hP hy => ?_) (fun σ H3 hP => ?_)⟩
    · obtain ⟨rfl, s, z, s0, s1, rfl⟩ := hP
      obtain ⟨rfl, hy⟩ := hy
      rw [List.getElem?_map] at hy
      obtain ⟨ce, _, rfl⟩ := Option.map_eq_some_iff.mp hy
      refine ⟨_, rfl, _, _, rfl, rfl, cmulB (big_of (by omega)) (by decide +kernel), _, rfl, .inl ⟨_, rfl, _, _, rfl, rfl, (show (0 : Int) < 2147483579 by decide), _, _, rfl, rfl, _, _, rfl, rfl, .inl ⟨_, rfl, _, _, rfl, rfl, (show (0 : Int) < 2147483647 by decide), ?_⟩⟩⟩
      exact ⟨rfl, _, _, Int.emod_nonneg _ (by decide), Int.emod_lt_of_pos _ (by decide), rfl⟩
    · obtain ⟨rfl, s, z, s0, s1, rfl⟩ := hP
      refine ⟨_, rfl, 63, rfl, a, _, rfl, e1.l ha, fun p2 n2 => ?_⟩
      rw [ec, ← List.map_take, hcells]
      generalize hh2 : upd _ p2 _ = H2; obtain ⟨e2, t2⟩ := upd_facts n2 hh2; clear hh2
      refine ⟨p2, _, rfl, .inl (SqL.of t2), fun p3 n3 => ?_⟩
      generalize hh3 : upd _ p3 _ = H3; obtain ⟨e3, t3⟩ := upd_facts n3 hh3; clear hh3
      refine ⟨_, rfl, (by show 4 ≤ sizeLine; decide), fun p4 n4 => ?_⟩
      generalize hh4 : upd _ p4 _ = H4; obtain ⟨e4, t4⟩ := upd_facts n4 hh4; clear hh4
      refine k p4 p3 H4 (((e1.trans e2).trans e3).trans e4) ⟨0, 0, s, cells, t4, e4 _ _ t3, by decide, by decide, s0, s1, by omega⟩ ?_
      exact e1.free (e2.free (e3.free n4))
end
end Pp

set_option Elab.async false
set_option linter.all false
set_option maxRecDepth 100000
set_option maxHeartbeats 4000000
/-! the law's pulls -/
namespace Pp
open PySem PySem.Spec PyProof.Rows L2
theorem lc_yes {J : It} {n : Nat} {G : Hp → Prop} {Y : Nat → Hp → V → Hp → Prop} (w : Walk J n G Y) {g : TG} {te : TE} {vs : List Nat} {σ : L2.St} {H1 : Hp} {D : Addr} {Qd : Hp → Prop} (Pv : Nat → Hp → Prop) (h0 : Pv 0 (upd H1 D (.lst []))) (hG : ∀ i H, i ≤ n → Pv i H → G H)
    (hs : ∀ i x H H', i < n → Pv i H → Y i H x H' → g x (wipe σ vs) H' fun σ2 H2 => wipe σ2 vs = wipe σ vs ∧ te σ2 H2 fun y H4 => ∃ acc, H4 D = some (.lst acc) ∧ acc.length < sizeLine ∧ Pv (i + 1) (upd H4 D (.lst (acc ++ [y])))) (hd : ∀ H, Pv n H → Qd H) :
    ∃ W : Nat → Nat → Hp → Prop, (∃ m, W 0 m (upd H1 D (.lst []))) ∧ ∀ i m H, W i m H →
      (J.stop i H ∧ Qd H) ∨ (J.go i H ∧ ∃ Nx : Hp → Prop, (∀ H', Nx H' → ∃ m', m' < m ∧ W (i + 1) m' H') ∧ ∀ x H', J.yld i H x H' → g x (wipe σ vs) H' fun σ2 H2 => wipe σ2 vs = wipe σ vs ∧ tYes σ2 H2 fun b H3 =>
        if b = true then te σ2 H3 fun y H4 => ∃ acc, H4 D = some (.lst acc) ∧ acc.length < sizeLine ∧ Nx (upd H4 D (.lst (acc ++ [y]))) else Nx H3) := lc_it w Pv h0 hG hs hd
section
variable {P : Program} {w : World} {K : PySem.W.Frag} {mg : Str → Option Value} {base : Heap}
def sp_L_of : Sp := fun vs H Q _ => ∃ bg bl t xs, vs = [.ref bg, .ref t] ∧ BagAt H bg bl ∧ H t = some (.lst xs) ∧ t ≠ bg ∧ 0 < xs.length ∧ xs.length ≤ 1000 ∧ ∀ (i : Nat) (x : V) H', xs[i]? = some x → ExX bg H H' → BagAt H' bg bl → Q x H'
theorem ok_L_of (T : Tx w K mg) : FnR P w K mg base CX0 2 (He.ga K "_law_of") (sp_L_of) := by
  refine mkR T.d_L_of sc_L_of (fun _ _ _ _ _ _ us hl => match us, hl with | [_, _], _ => rfl) (fun vs H Q E h => ?_) (fun cdv A outer s H vs Q E hr h => ?_)
  · obtain ⟨bg, bl, t, xs, rfl, _⟩ := h
    rfl
  · obtain ⟨bg, bl, t, xs, rfl, hb, ht, ne, l0, l1, k⟩ := h
    refine ⟨_, (pss_one (ps_ret (pe_ix ix_list (pv 1) (c_call (ok_L_pull T) (hr.mono (by decide)) (by rfl) T.g_L_pull (kp_of T.d_L_pull) (pa_cons (pv 0) (pa_cons (pe_callB call_len_seq (by rfl) T.f_len (by decide +kernel) (pa_cons (pv 1) pa_nil)) pa_nil))) (fun _ _ => rfl)))), ?_⟩
    refine ⟨_, rfl, _, rfl, _, rfl, t, xs, rfl, .inl (SqL.of ht), bg, bl, _, rfl, hb, by omega, big_of (by omega), fun r H1 e1 b1 r0 r1 => ?_⟩
    obtain ⟨j, rfl⟩ := Int.eq_ofNat_of_zero_le r0
    have hj : j < xs.length := by omega
    exact ⟨t, xs, _, xs[j], rfl, rfl, SqL.of (e1 _ _ ne ht), atI_nat (List.getElem?_eq_getElem hj), k j _ H1 (List.getElem?_eq_getElem hj) e1 b1⟩
theorem ends_at {i : Nat} {x : V} (h : ([V.str "top", V.str "bottom"] : List V)[i]? = some x) : ∃ e, x = .str (endS e) := by
  match i, h with
  | 0, h => cases h; exact ⟨true, rfl⟩
  | 1, h => cases h; exact ⟨false, rfl⟩
theorem new_ne2 {H : Hp} {p bg bl : Addr} (n : H p = none) (b : BagAt H bg bl) : p ≠ bl := fun z => by
  obtain ⟨_, _, _, _, _, h, _⟩ := b
  rw [z, h] at n
  cases n
theorem ExX.mut {H H' : Hp} {x p : Addr} {o : HO} (e : ExX x H H') (h : H p = none) : ExX x H (upd H' p o) := fun a u n ha => by
  rw [upd_ne (ne_of_none ha h)]
  exact e a u n ha
theorem ExX.free2 {H H' : Hp} {bg bl p : Addr} (e : ExX bg H H') (b : BagAt H bg bl) (h : H' p = none) (hb : BagAt H' bg bl) : H p = none := by
  cases h1 : H p with
  | none => rfl
  | some o =>
    by_cases c : p = bg
    · obtain ⟨xs, hx⟩ := hb.lst
      rw [c, hx] at h
      cases h
    · rw [e p o c h1] at h
      cases h
theorem BagAt.put {H : Hp} {bg bl p : Addr} {o : HO} (b : BagAt H bg bl) (h1 : p ≠ bg) (h2 : p ≠ bl) : BagAt (upd H p o) bg bl := by
  obtain ⟨i, c, s, cs, a1, a2, r⟩ := b
  exact ⟨i, c, s, cs, (upd_ne (Ne.symm h1)).trans a1, (upd_ne (Ne.symm h2)).trans a2, r⟩
def sp_L_end : Sp := fun vs H Q _ => ∃ bg bl, vs = [.ref bg, .int 3] ∧ BagAt H bg bl ∧ ∀ v a H', EP.ok a → EpAt H' v a → ExX bg H H' → BagAt H' bg bl → Q v H'
theorem new_ne {H : Hp} {p bg bl : Addr} (n : H p = none) (b : BagAt H bg bl) : p ≠ bg := fun z => by
  obtain ⟨xs, h⟩ := b.lst
  rw [z, h] at n
  cases n
theorem ok_L_end (T : Tx w K mg) : FnR P w K mg base CX0 3 (He.ga K "_law_end") (sp_L_end) := by
  refine mkR T.d_L_end sc_L_end (fun _ _ _ _ _ _ us hl => match us, hl with | [_, _], _ => rfl) (fun vs H Q E h => ?_) (fun cdv A outer s H vs Q E hr h => ?_)
  · obtain ⟨bg, bl, rfl, _⟩ := h
    rfl
  · obtain ⟨bg, bl, rfl, hb, k⟩ := h
    refine ⟨_, (pss_one (ps_ret (pe_tup (pa_cons (c_call (ok_L_of T) (hr.mono (by decide)) (by rfl) T.g_L_of (kp_of T.d_L_of) (pa_cons (pv 0) (pa_cons (pe_lst (pa_cons pe_str (pa_cons pe_str pa_nil))) pa_nil))) (pa_cons (c_call (ok_L_pull T) (hr.mono (by decide)) (by rfl) T.g_L_pull (kp_of T.d_L_pull) (pa_cons (pv 0) (pa_cons (pe_op op_add (pv 1) pe_int) pa_nil))) pa_nil))))), ?_⟩
    refine ⟨_, rfl, (by show 2 ≤ sizeLine; decide), fun p1 n1 => ?_⟩
    generalize hh1 : upd _ p1 _ = H1; obtain ⟨e1, t1⟩ := upd_facts n1 hh1; clear hh1
    refine ⟨bg, bl, p1, _, rfl, hb.mono e1, t1, new_ne n1 hb, by decide, by decide, fun i x H2 hx e2 b2 => ?_⟩
    obtain ⟨e, rfl⟩ := ends_at hx
    refine ⟨_, rfl, _, rfl, _, _, rfl, rfl, bg, bl, _, rfl, b2, by decide, by decide +kernel, fun r H3 e3 b3 r0 r1 => ?_⟩
    refine ⟨(by show 2 ≤ sizeLine; decide), fun p4 n4 => ?_⟩
    generalize hh4 : upd _ p4 _ = H4; obtain ⟨e4, t4⟩ := upd_facts n4 hh4; clear hh4
    exact k _ (e, r) _ ⟨r0, by show r ≤ 3; omega⟩ ⟨p4, rfl, t4⟩ (((e1.x.trans e2).trans e3).trans e4.x) (b3.mono e4)
def sp_L_move : Sp := fun vs H Q _ => ∃ bg bl, vs = [.ref bg, .int 3] ∧ BagAt H bg bl ∧ ∀ v m H', Mv.ok m → MvAt H' v m → ExX bg H H' → BagAt H' bg bl → Q v H'
theorem ok_L_move (T : Tx w K mg) : FnR P w K mg base CX0 4 (He.ga K "_law_move") (sp_L_move) := by
  refine mkR T.d_L_move sc_L_move (fun _ _ _ _ _ _ us hl => match us, hl with | [_, _], _ => rfl) (fun vs H Q E h => ?_) (fun cdv A outer s H vs Q E hr h => ?_)
  · obtain ⟨bg, bl, rfl, _⟩ := h
    rfl
  · obtain ⟨bg, bl, rfl, hb, k⟩ := h
    refine ⟨_, (pss_cons (ps_set (i := 2) sc_L_move.nd rfl (Or.inl rfl) (c_call (ok_L_pull T) (hr.mono (by decide)) (by rfl) T.g_L_pull (kp_of T.d_L_pull) (pa_cons (pv 0) (pa_cons pe_int pa_nil)))) (pss_cons (ps_if (pt_cmpR op_lt (pv 2) pe_int (nomark _)) (pss_one (ps_ret (pe_tup (pa_cons (pe_ix ix_list (pe_lst (pa_cons pe_str (pa_cons pe_str (pa_cons pe_str pa_nil)))) (pv 2) (fun _ _ => rfl)) (pa_cons (c_call (ok_L_end T) (hr.mono (by decide)) (by rfl) T.g_L_end (kp_of T.d_L_end) (pa_cons (pv 0) (pa_cons (pv 1) pa_nil))) (pa_cons (c_call (ok_L_end T) (hr.mono (by decide)) (by rfl) T.g_L_end (kp_of T.d_L_end) (pa_cons (pv 0) (pa_cons (pv 1) pa_nil))) pa_nil)))))) pss_nil) (pss_cons (ps_if (pt_cmpR op_lt (pv 2) pe_int (nomark _)) (pss_one (ps_ret (pe_tup (pa_cons pe_str (pa_cons (pe_op op_sub (pe_op op_sub (c_call (ok_L_pull T) (hr.mono (by decide)) (by rfl) T.g_L_pull (kp_of T.d_L_pull) (pa_cons (pv 0) (pa_cons (pe_op op_add (pe_op op_mulW pe_int (pv 1)) pe_int) pa_nil))) (pv 1)) pe_int) pa_nil))))) pss_nil) (pss_cons (ps_if (pt_cmpR op_eq (pv 2) pe_int (nomark _)) (pss_one (ps_ret (pe_tup (pa_cons pe_str (pa_cons (c_call (ok_L_of T) (hr.mono (by decide)) (by rfl) T.g_L_of (kp_of T.d_L_of) (pa_cons (pv 0) (pa_cons (pe_lst (pa_cons pe_str (pa_cons pe_str pa_nil))) pa_nil))) (pa_cons (c_call (ok_L_pull T) (hr.mono (by decide)) (by rfl) T.g_L_pull (kp_of T.d_L_pull) (pa_cons (pv 0) (pa_cons (pe_op op_add (pv 1) pe_int) pa_nil))) pa_nil)))))) pss_nil) (pss_one (ps_ret (pe_ifExp (pt_cmpR op_eq (pv 2) pe_int (nomark _)) (pe_tup (pa_cons pe_str pa_nil)) (pe_tup (pa_cons pe_str (pa_cons (c_call (ok_L_end T) (hr.mono (by decide)) (by rfl) T.g_L_end (kp_of T.d_L_end) (pa_cons (pv 0) (pa_cons (pv 1) pa_nil))) pa_nil)))))))))), ?_⟩
    refine ⟨_, rfl, bg, bl, _, rfl, hb, by decide, by decide +kernel, fun pk H1 e1 b1 pk0 pk1 => ?_⟩
    refine ⟨_, rfl, _, _, rfl, rfl, _, rfl, ?_⟩
    by_cases c1 : pk < 3
    · rw [decide_eq_true c1]
      refine iteT ⟨(by show 3 ≤ sizeLine; decide), fun p2 n2 => ?_⟩
      generalize hh2 : upd _ p2 _ = H2; obtain ⟨e2, t2⟩ := upd_facts n2 hh2; clear hh2
      obtain ⟨j, rfl⟩ := Int.eq_ofNat_of_zero_le pk0
      have hk : ∃ z, ([V.str "swap", V.str "carry", V.str "carry"] : List V)[j]? = some (.str z) ∧ (z = "swap" ∨ z = "carry") := by
        match j, c1 with
        | 0, _ => exact ⟨_, rfl, .inl rfl⟩
        | 1, _ => exact ⟨_, rfl, .inr rfl⟩
        | 2, _ => exact ⟨_, rfl, .inr rfl⟩
        | j + 3, c => omega
      obtain ⟨z, hz, hz2⟩ := hk
      refine ⟨_, rfl, p2, _, _, _, rfl, rfl, SqL.of t2, atI_nat hz, _, rfl, _, rfl, bg, bl, rfl, b1.mono e2, fun va a H3 aok ha e3 b3 => ?_⟩
      refine ⟨_, rfl, _, rfl, bg, bl, rfl, b3, fun vb b H4 bok hb4 e4 b4 => ⟨(by show 3 ≤ sizeLine; decide), fun p5 n5 => ?_⟩⟩
      generalize hh5 : upd _ p5 _ = H5; obtain ⟨e5, t5⟩ := upd_facts n5 hh5; clear hh5
      have ha5 : EpAt H5 va a := (ha.mono (b3.n e4)).mono e5.n
      have ee := (((e1.trans e2.x).trans e3).trans e4).trans e5.x
      rcases hz2 with rfl | rfl
      · exact k _ (.swap a b) H5 ⟨aok, bok⟩ ⟨p5, va, vb, rfl, t5, ha5, hb4.mono e5.n⟩ ee (b4.mono e5)
      · exact k _ (.carry a b) H5 ⟨aok, bok⟩ ⟨p5, va, vb, rfl, t5, ha5, hb4.mono e5.n⟩ ee (b4.mono e5)
    · rw [decide_eq_false c1]
      refine iteF ⟨_, rfl, _, _, rfl, rfl, _, rfl, ?_⟩
      by_cases c2 : pk < 6
      · rw [decide_eq_true c2]
        refine iteT ⟨_, rfl, _, rfl, _, _, rfl, rfl, cmulB2 (by decide) (by decide), _, _, rfl, rfl, bg, bl, _, rfl, b1, by decide, by decide +kernel, fun r H2 e2 b2 r0 r1 => ?_⟩
        have r1 : r < 9 := r1
        refine ⟨_, rfl, _, _, rfl, rfl, _, _, rfl, rfl, (by show 2 ≤ sizeLine; decide), fun p5 n5 => ?_⟩
        generalize hh5 : upd _ p5 _ = H5; obtain ⟨e5, t5⟩ := upd_facts n5 hh5; clear hh5
        exact k _ (.cut (r - 3 - 1)) H5 ⟨by omega, by omega⟩ ⟨p5, rfl, t5⟩ ((e1.trans e2).trans e5.x) (b2.mono e5)
      · rw [decide_eq_false c2]
        refine iteF ⟨_, rfl, rfl, _, rfl, ?_⟩
        rw [dec_int]
        by_cases c3 : pk = 6
        · rw [decide_eq_true c3]
          refine iteT ⟨_, rfl, (by show 2 ≤ sizeLine; decide), fun p2 n2 => ?_⟩
          generalize hh2 : upd _ p2 _ = H2; obtain ⟨e2, t2⟩ := upd_facts n2 hh2; clear hh2
          refine ⟨bg, bl, p2, _, rfl, b1.mono e2, t2, new_ne n2 b1, by decide, by decide, fun i x H3 hx e3 b3 => ?_⟩
          obtain ⟨e, rfl⟩ := ends_at hx
          refine ⟨_, rfl, _, rfl, _, _, rfl, rfl, bg, bl, _, rfl, b3, by decide, by decide +kernel, fun r H4 e4 b4 r0 r1 => ⟨(by show 3 ≤ sizeLine; decide), fun p5 n5 => ?_⟩⟩
          generalize hh5 : upd _ p5 _ = H5; obtain ⟨e5, t5⟩ := upd_facts n5 hh5; clear hh5
          have r1 : r < 5 := r1
          exact k _ (.turn e r) H5 ⟨r0, by omega⟩ ⟨p5, rfl, t5⟩ ((((e1.trans e2.x).trans e3).trans e4).trans e5.x) (b4.mono e5)
        · rw [decide_eq_false c3]
          refine iteF ⟨_, rfl, rfl, _, rfl, ?_⟩
          rw [dec_int]
          by_cases c4 : pk = 7
          · rw [decide_eq_true c4]
            refine iteT ⟨(by show 1 ≤ sizeLine; decide), fun p5 n5 => ?_⟩
            generalize hh5 : upd _ p5 _ = H5; obtain ⟨e5, t5⟩ := upd_facts n5 hh5; clear hh5
            exact k _ .over H5 trivial ⟨p5, rfl, t5⟩ (e1.trans e5.x) (b1.mono e5)
          · rw [decide_eq_false c4]
            refine iteF ⟨_, rfl, _, rfl, bg, bl, rfl, b1, fun va a H3 aok ha e3 b3 => ⟨(by show 2 ≤ sizeLine; decide), fun p5 n5 => ?_⟩⟩
            generalize hh5 : upd _ p5 _ = H5; obtain ⟨e5, t5⟩ := upd_facts n5 hh5; clear hh5
            exact k _ (.face a) H5 aok ⟨p5, va, rfl, t5, ha.mono e5.n⟩ ((e1.trans e3).trans e5.x) (b3.mono e5)
def sp_L_moves : Sp := fun vs H Q _ => ∃ bg bl, vs = [.ref bg, .int 4, .int 3] ∧ BagAt H bg bl ∧ ∀ q xs ws H', H q = none → H' q = some (.lst xs) → MvsAt H' xs ws → (∀ m ∈ ws, m.ok) → ws.length ≤ 4 → ExX bg H H' → BagAt H' bg bl → Q (.ref q) H'
theorem ok_L_moves (T : Tx w K mg) : FnR P w K mg base CX0 5 (He.ga K "_law_moves") (sp_L_moves) := by
  refine mkR T.d_L_moves sc_L_moves (fun _ _ _ _ _ _ us hl => match us, hl with | [_, _, _], _ => rfl) (fun vs H Q E h => ?_) (fun cdv A outer s H vs Q E hr h => ?_)
  · obtain ⟨bg, bl, rfl, _⟩ := h
    rfl
  · obtain ⟨bg, bl, rfl, hb, k⟩ := h
    refine ⟨_, (pss_one (ps_ret (pe_lc (own := [("_law_k", 3)]) (g := gName 3) (by rfl) sc_L_moves.nd (pi_range1 (by rfl) T.f_range (pa_cons (c_call (ok_L_pull T) (hr.mono (by decide)) (by rfl) T.g_L_pull (kp_of T.d_L_pull) (pa_cons (pv 0) (pa_cons (pe_op op_add (pv 1) pe_int) pa_nil))) pa_nil)) (blkOk_by (own := [("_law_k", 3)]) (N := n_L_moves) (sc := defScope s_L_moves) (by decide +kernel)) (fun _ _ _ _ _ => (pg_name (i := 3) sc_L_moves.nd rfl (Or.inl rfl))) (fun _ _ _ _ _ => pts_nil) (fun _ _ _ _ _ => (c_call (ok_L_move T) (hr.mono (by decide)) (by rfl) T.g_L_move (kp_of T.d_L_move) (pa_cons (pv 0) (pa_cons (pv 2) pa_nil))))))), ?_⟩
    refine ⟨_, rfl, _, rfl, _, _, rfl, rfl, bg, bl, _, rfl, hb, by decide, by decide +kernel, fun r H1 e1 b1 r0 r1 => ?_⟩
    have r1 : r < 5 := r1
    refine ⟨_, rfl, by omega, by omega, fun D hD => lc_yes (walk_range (lo := 0) (n := r.toNat)) (fun i H' => ExX bg H1 H' ∧ BagAt H' bg bl ∧ ∃ xs ws, H' D = some (.lst xs) ∧ MvsAt H' xs ws ∧ (∀ m ∈ ws, m.ok) ∧ ws.length = i ∧ xs.length = i) ⟨(Ex.new hD).x, b1.mono (Ex.new hD), [], [], upd_same, .nil, fun m hm => (by cases hm), rfl, rfl⟩ (fun _ _ _ _ => trivial)
      (fun i x H3 H4 hi hP hy => ?_) (fun H3 hP => ?_)⟩
    · obtain ⟨rfl, rfl⟩ := hy
      obtain ⟨e3, b3, xs, ws, hx, hm, ok, l1, l2⟩ := hP
      have dn : D ≠ bg := new_ne hD b1
      have dl : D ≠ bl := new_ne2 hD b1
      refine ⟨rfl, _, rfl, _, rfl, bg, bl, rfl, b3, fun v m H5 mok hv e5 b5 => ?_⟩
      have hx5 := e5 _ _ dn hx
      have en5 : En H5 (upd H5 D (.lst (xs ++ [v]))) := En.put hx5
      refine ⟨xs, hx5, sz4' (by omega), (e3.trans e5).mut hD, b5.put dn dl, xs ++ [v], ws ++ [m], upd_same, paired_app (MvsAt.mono ((b3.n e5).trans en5) hm) (.cons (hv.mono en5) .nil), fun m' hm' => ?_, by rw [List.length_append, l1] <;> rfl, by rw [List.length_append, l2] <;> rfl⟩
      rcases List.mem_append.mp hm' with h | h
      · exact ok m' h
      · rw [List.mem_singleton.mp h]
        exact mok
    · obtain ⟨e3, b3, xs, ws, hx, hm, ok, l1, l2⟩ := hP
      exact k D xs ws H3 (e1.free2 hb hD b1) hx hm ok (by omega) (e1.trans e3) b3
end
end Pp

set_option Elab.async false
set_option linter.all false
set_option maxRecDepth 100000
set_option maxHeartbeats 4000000
/-! the law's words, sizes, places, numbers -/
namespace Pp
open PySem PySem.Spec PyProof.Rows L2
theorem reachF_le : ∀ {ws : List Mv}, (∀ m ∈ ws, m.ok) → reachF ws ≤ 4 * ws.length
  | [], _ => by decide
  | m :: r, h => by
    have h1 := reachF_le (ws := r) fun x hx => h x (List.mem_cons_of_mem _ hx)
    have h2 := (Mv.depth_le (h m (List.mem_cons_self))).2
    show m.depth + reachF r ≤ 4 * ((r.length + 1 : Nat) : Int)
    omega
section
variable {P : Program} {w : World} {K : PySem.W.Frag} {mg : Str → Option Value} {base : Heap}
def sp_L_made : Sp := fun vs H Q _ => ∃ a xs ws, vs = [.ref a] ∧ H a = some (.lst xs) ∧ MvsAt H xs ws ∧ (∀ m ∈ ws, m.ok) ∧ ws.length ≤ 4 ∧ ∀ q H', Ex H H' → WdAt K H' (.ref q) ws → Q (.ref q) H'
theorem ok_L_made (T : Tx w K mg) : FnR P w K mg base CX0 7 (He.ga K "_law_made") (sp_L_made (K := K)) := by
  refine mkR T.d_L_made sc_L_made (fun _ _ _ _ _ _ us hl => match us, hl with | [_], _ => rfl) (fun vs H Q E h => ?_) (fun cdv A outer s H vs Q E hr h => ?_)
  · obtain ⟨a, xs, ws, rfl, _⟩ := h
    rfl
  · obtain ⟨a, xs, ws, rfl, ha, hm, ok, hl, k⟩ := h
    have lx := paired_len hm
    refine ⟨_, (pss_cons (ps_set (i := 1) sc_L_made.nd rfl (Or.inl rfl) (pe_makeR0 T.mk_Word (ok_Word_init T) (hr.mono (by decide)) (by rfl) T.g_Word pass0)) (pss_cons (ps_for PassesOwn.never rfl (pi_list (pv 0)) (pg_name (i := 2) sc_L_made.nd rfl (Or.inl rfl)) (pss_one (ps_set (i := 1) sc_L_made.nd rfl (Or.inl rfl) (pe_op (op_binOwn (op := .Add) ⟨T.self_Word, T.me_Word_add.at_, T.me_Word_add.fn⟩ (ok_Word_add T) (hr.mono (by decide)) pass0) (pv 1) (StX.pe_makeR T.mk_Word (ok_Word_init T) (hr.mono (by decide)) (by rfl) T.g_Word pass0 (pa_cons (pv 2) pa_nil)))))) (pss_one (ps_ret (pv 1))))), ?_⟩
    refine word_made (ws := []) .nil (fun m hm => by cases hm) (by decide) (by decide) fun q H1 e1 w1 => ?_
    refine ⟨_, rfl, a, rfl, ⟨xs, SqL.of (e1 _ _ ha)⟩, for_it (walk_list (K := K) (a := a) (xs := xs)) (fun i σ H' => Ex H H' ∧ ∃ (q : Addr) (z : Option V), σ = [some (.ref a), some (.ref q), z] ∧ WdAt K H' (.ref q) (ws.take i)) ⟨e1, q, _, rfl, w1⟩ (fun i σ H' _ h => SqL.of (h.1 _ _ ha)) (fun i y σ H3 H4 hi hP hy => ?_) (fun σ H3 hP => ?_)⟩
    · obtain ⟨e3, q, z, rfl, hw⟩ := hP
      obtain ⟨rfl, hy⟩ := hy
      obtain ⟨m, hm1, hm2⟩ := mvs_get hm hy
      have mok := ok m (List.mem_of_getElem? hm1)
      have md := Mv.depth_le mok
      refine ⟨_, rfl, _, rfl, word_made (ws := [m]) (.cons (hm2.mono e3.n) .nil) (fun m' h => by rw [List.mem_singleton.mp h]; exact mok) (by show 1 ≤ 40; decide) (by show m.depth + 0 ≤ 60; omega) fun q2 H5 e5 w5 => ?_⟩
      have hw5 := hw.mono e5.n
      have hw5' := hw5
      have w5' := w5
      obtain ⟨p1, dx1, t1, xs1, eq1, hp1, r1⟩ := hw5
      obtain ⟨p2, dx2, t2, xs2, eq2, hp2, r2⟩ := w5
      have et : ws.take (i + 1) = ws.take i ++ [m] := by rw [List.take_succ, hm1] <;> rfl
      have okt : ∀ m' ∈ ws.take i ++ [m], m'.ok := fun m' h => by
        rw [← et] at h
        exact ok m' (List.mem_of_mem_take h)
      have lt : (ws.take i ++ [m]).length ≤ 4 := by
        rw [← et, List.length_take]
        omega
      refine ⟨p1, dx1, _, p2, dx2, _, eq1, eq2, hp1, hp2, _, _, ws.take i, [m], rfl, hw5', w5', okt, by omega, by have := reachF_le okt; omega, fun q9 H9 e9 h9 => ⟨⟨_, rfl⟩, ?_⟩⟩
      exact ⟨(e3.trans e5).trans e9, q9, _, rfl, by rw [et]; exact h9⟩
    · obtain ⟨e3, q, z, rfl, hw⟩ := hP
      rw [List.take_of_length_le (by omega)] at hw
      exact ⟨_, rfl, k q H3 e3 hw⟩
def sp_L_great : Sp := fun vs H Q _ => ∃ bg bl, vs = [.ref bg] ∧ BagAt H bg bl ∧ ∀ n H', 200 ≤ n → n ≤ 10 ^ 30 → ExX bg H H' → BagAt H' bg bl → Q (.int n) H'
theorem ok_L_great (T : Tx w K mg) : FnR P w K mg base CX0 3 (He.ga K "_law_great") (sp_L_great) := by
  refine mkR T.d_L_great sc_L_great (fun _ _ _ _ _ _ us hl => match us, hl with | [_], _ => rfl) (fun vs H Q E h => ?_) (fun cdv A outer s H vs Q E hr h => ?_)
  · obtain ⟨bg, bl, rfl, _⟩ := h
    rfl
  · obtain ⟨bg, bl, rfl, hb, k⟩ := h
    refine ⟨_, (pss_one (ps_ret (c_call (ok_L_of T) (hr.mono (by decide)) (by rfl) T.g_L_of (kp_of T.d_L_of) (pa_cons (pv 0) (pa_cons (pe_lst (pa_cons (pe_op op_sub (pe_op op_pow pe_int pe_int) (c_call (ok_L_pull T) (hr.mono (by decide)) (by rfl) T.g_L_pull (kp_of T.d_L_pull) (pa_cons (pv 0) (pa_cons pe_int pa_nil)))) (pa_cons (pe_op op_add (pe_op op_pow pe_int pe_int) (c_call (ok_L_pull T) (hr.mono (by decide)) (by rfl) T.g_L_pull (kp_of T.d_L_pull) (pa_cons (pv 0) (pa_cons (pe_op op_pow pe_int pe_int) pa_nil)))) (pa_cons (pe_op op_add pe_int (c_call (ok_L_pull T) (hr.mono (by decide)) (by rfl) T.g_L_pull (kp_of T.d_L_pull) (pa_cons (pv 0) (pa_cons pe_int pa_nil)))) pa_nil)))) pa_nil))))), ?_⟩
    refine ⟨_, rfl, _, _, rfl, rfl, ⟨by decide, by decide, by decide⟩, _, rfl, bg, bl, _, rfl, hb, by decide, by decide +kernel, fun r1 H1 e1 b1 r10 r11 => ?_⟩
    refine ⟨_, _, rfl, rfl, _, _, rfl, rfl, ⟨by decide, by decide, by decide⟩, _, rfl, _, _, rfl, rfl, ⟨by decide, by decide, by decide⟩, bg, bl, _, rfl, b1, by decide +kernel, by decide +kernel, fun r2 H2 e2 b2 r20 r21 => ?_⟩
    refine ⟨_, _, rfl, rfl, _, rfl, bg, bl, _, rfl, b2, by decide, by decide +kernel, fun r3 H3 e3 b3 r30 r31 => ?_⟩
    refine ⟨_, _, rfl, rfl, (by show 3 ≤ sizeLine; decide), fun p4 n4 => ?_⟩
    generalize hh4 : upd _ p4 _ = H4; obtain ⟨e4, t4⟩ := upd_facts n4 hh4; clear hh4
    refine ⟨bg, bl, p4, _, rfl, b3.mono e4, t4, new_ne n4 b3, (by show 0 < 3; decide), (by show 3 ≤ 1000; decide), fun i x H5 hx e5 b5 => ?_⟩
    have ee := (((e1.trans e2).trans e3).trans e4.x).trans e5
    have h30 : (10 : Int) ^ (30 : Int).toNat = 10 ^ 30 := rfl
    have h18 : (10 : Int) ^ (18 : Int).toNat = 10 ^ 18 := rfl
    have h9 : (10 : Int) ^ (9 : Int).toNat = 10 ^ 9 := rfl
    rw [h30, h18] at hx
    rw [h9] at r21
    have v1 : (10 ^ 30 : Int) = 1000000000000000000000000000000 := by decide +kernel
    have v2 : (10 ^ 18 : Int) = 1000000000000000000 := by decide +kernel
    have v3 : (10 ^ 9 : Int) = 1000000000 := by decide +kernel
    match i, hx with
    | 0, hx =>
      cases hx
      exact k _ H5 (by omega) (by omega) ee b5
    | 1, hx =>
      cases hx
      exact k _ H5 (by omega) (by omega) ee b5
    | 2, hx =>
      cases hx
      exact k _ H5 (by omega) (by omega) ee b5
def sp_L_place_of : Sp := fun vs H Q _ => ∃ bg bl n, vs = [.ref bg, .int n] ∧ BagAt H bg bl ∧ 200 ≤ n ∧ n ≤ 10 ^ 30 ∧ ∀ p H', 0 ≤ p → p < n → ExX bg H H' → BagAt H' bg bl → Q (.int p) H'
theorem ok_L_place_of (T : Tx w K mg) : FnR P w K mg base CX0 2 (He.ga K "_law_place_of") (sp_L_place_of) := by
  refine mkR T.d_L_place_of sc_L_place_of (fun _ _ _ _ _ _ us hl => match us, hl with | [_, _], _ => rfl) (fun vs H Q E h => ?_) (fun cdv A outer s H vs Q E hr h => ?_)
  · obtain ⟨bg, bl, n, rfl, _⟩ := h
    rfl
  · obtain ⟨bg, bl, n, rfl, hb, n0, n1, k⟩ := h
    refine ⟨_, (pss_cons (ps_par (i := 2) (j := 3) (by rfl) sc_L_place_of.nd rfl rfl (by decide) rfl rfl (pa_cons (c_call (ok_L_pull T) (hr.mono (by decide)) (by rfl) T.g_L_pull (kp_of T.d_L_pull) (pa_cons (pv 0) (pa_cons pe_int pa_nil))) (pa_cons (c_call (ok_L_pull T) (hr.mono (by decide)) (by rfl) T.g_L_pull (kp_of T.d_L_pull) (pa_cons (pv 0) (pa_cons (pe_callB (call_min2 rfl) (by rfl) T.f_min (by decide +kernel) (pa_cons (pv 1) (pa_cons pe_int pa_nil))) pa_nil))) pa_nil)) (by rfl)) (pss_cons (ps_if (pt_cmpR op_lt (pv 2) pe_int (nomark _)) (pss_one (ps_ret (pe_ifExp (pt_cmpR op_eq (pv 2) pe_int (nomark _)) (pv 3) (pe_op op_sub (pe_op op_sub (pv 1) pe_int) (pv 3))))) pss_nil) (pss_one (ps_ret (pe_ifExp (pt_cmpR op_eq (pv 2) pe_int (nomark _)) (c_call (ok_L_pull T) (hr.mono (by decide)) (by rfl) T.g_L_pull (kp_of T.d_L_pull) (pa_cons (pv 0) (pa_cons (pv 1) pa_nil))) (pe_op op_sub (pe_op op_fdivW (pv 1) pe_int) (pe_callB (call_min2 rfl) (by rfl) T.f_min (by decide +kernel) (pa_cons (pv 3) (pa_cons (pe_op op_fdivW (pv 1) pe_int) pa_nil))))))))), ?_⟩
    refine ⟨_, rfl, bg, bl, _, rfl, hb, by decide, by decide +kernel, fun r1 H1 e1 b1 r10 r11 => ?_⟩
    refine ⟨_, rfl, _, rfl, _, _, rfl, ?_⟩
    rw [if_pos (show (24 : Int) < n by omega)]
    refine ⟨bg, bl, _, rfl, b1, by decide, by decide +kernel, fun r2 H2 e2 b2 r20 r21 => ?_⟩
    have ee := e1.trans e2
    have v1 : (10 ^ 30 : Int) = 1000000000000000000000000000000 := by decide +kernel
    have half := Int.mul_ediv_add_emod n 2
    have half2 := Int.emod_lt_of_pos n (show (0 : Int) < 2 by decide)
    have half3 := Int.emod_nonneg n (show (2 : Int) ≠ 0 by decide)
    refine ⟨_, _, rfl, _, rfl, _, _, rfl, rfl, _, rfl, ?_⟩
    by_cases c1 : r1 < 2
    · rw [decide_eq_true c1]
      refine iteT ⟨_, rfl, rfl, _, rfl, ?_⟩
      rw [dec_int]
      by_cases c2 : r1 = 0
      · rw [decide_eq_true c2]
        exact iteT ⟨_, rfl, k _ _ (by omega) (by omega) ee b2⟩
      · rw [decide_eq_false c2]
        exact iteF ⟨_, rfl, _, _, rfl, rfl, _, rfl, _, _, rfl, rfl, k _ _ (by omega) (by omega) ee b2⟩
    · rw [decide_eq_false c1]
      refine iteF ⟨_, rfl, rfl, _, rfl, ?_⟩
      rw [dec_int]
      by_cases c2 : r1 = 2
      · rw [decide_eq_true c2]
        exact iteT ⟨_, rfl, _, rfl, bg, bl, _, rfl, b2, by omega, Nat.lt_of_le_of_lt (show n.natAbs ≤ 1000000000000000000000000000000 by omega) (by decide +kernel), fun r3 H3 e3 b3 r30 r31 => k _ _ r30 r31 (ee.trans e3) b3⟩
      · rw [decide_eq_false c2]
        refine iteF ⟨_, rfl, _, _, rfl, rfl, cdivB (by decide) (by decide +kernel), _, rfl, _, rfl, _, _, rfl, rfl, cdivB (by decide) (by decide +kernel), _, _, rfl, _, _, rfl, rfl, ?_⟩
        refine k _ _ ?_ ?_ ee b2
        · split <;> omega
        · split <;> omega
def sp_L_gcd : Sp := fun vs H Q _ => ∃ a b : Int, vs = [.int a, .int b] ∧ Q (.int ((Int.gcd a b : Nat) : Int)) H
theorem ok_L_gcd (T : Tx w K mg) : FnR P w K mg base CX0 1 (He.ga K "_law_gcd") (sp_L_gcd) := by
  refine mkR T.d_L_gcd sc_L_gcd (fun _ _ _ _ _ _ us hl => match us, hl with | [_, _], _ => rfl) (fun vs H Q E h => ?_) (fun cdv A outer s H vs Q E hr h => ?_)
  · obtain ⟨a, b, rfl, _⟩ := h
    rfl
  · obtain ⟨a, b, rfl, k⟩ := h
    refine ⟨_, (pss_cons (ps_par (i := 0) (j := 1) (by rfl) sc_L_gcd.nd rfl rfl (by decide) rfl rfl (pa_cons (pe_callB call_abs (by rfl) T.f_abs (by decide +kernel) (pa_cons (pv 0) pa_nil)) (pa_cons (pe_callB call_abs (by rfl) T.f_abs (by decide +kernel) (pa_cons (pv 1) pa_nil)) pa_nil)) (by rfl)) (pss_cons (ps_while PassesOwn.never (pt_cmpR op_ne (pv 1) pe_int (nomark _)) (pss_one (ps_par (i := 0) (j := 1) (by rfl) sc_L_gcd.nd rfl rfl (by decide) rfl rfl (pa_cons (pv 1) (pa_cons (pe_op op_mod (pe_callTy call_intR (by rfl) T.f_int (by decide +kernel) (pa_cons (pv 0) pa_nil)) (pv 1)) pa_nil)) (by rfl)))) (pss_one (ps_ret (pv 0))))), ?_⟩
    refine ⟨_, rfl, _, rfl, _, rfl, _, rfl, _, _, rfl, fun m σ H' => H' = H ∧ ∃ x y : Int, σ = [some (.int x), some (.int y)] ∧ 0 ≤ x ∧ 0 ≤ y ∧ Int.gcd x y = Int.gcd a b ∧ m = y.toNat, ⟨_, rfl, _, _, rfl, ?_, ?_, ?_, rfl⟩, ?_⟩
    · split <;> omega
    · split <;> omega
    · split <;> split <;> simp [Int.gcd]
    · rintro m σ H' ⟨rfl, x, y, rfl, hx, hy, hg, rfl⟩
      refine ⟨_, rfl, rfl, _, rfl, ite2 (fun c => ?_) (fun c => ?_)⟩
      · have c' : y ≠ 0 := by
          intro e
          rw [e] at c
          simp at c
        have h1 := Int.emod_nonneg x c'
        have h2 := Int.emod_lt_of_pos x (show 0 < y by omega)
        refine ⟨_, fun _ _ n => n, ?_⟩
        refine ⟨_, rfl, _, rfl, .inl ⟨_, rfl, _, rfl, _, _, rfl, rfl, (show 0 < y by omega), _, _, rfl, _, ?_, rfl, _, _, rfl, hy, h1, ?_, rfl⟩⟩
        · omega
        · rw [gcd_emod]
          exact hg
      · have c' : y = 0 := by
          by_cases e : y = 0
          · exact e
          · simp [e] at c
        subst c'
        refine ⟨_, rfl, ?_⟩
        have e : x = ((Int.gcd a b : Nat) : Int) := by
          rw [← hg, Int.gcd_zero_right]
          omega
        rw [e]
        exact k
/-- as the law counts it -/
def lcmG : Int → List Int → Int
  | L, [] => L
  | L, m :: r => lcmG (L / (Int.gcd L m : Nat) * m) r
def sp_L_lcm : Sp := fun vs H Q _ => ∃ (a : Addr) (ms : List Int), vs = [.ref a] ∧ H a = some (.lst (ms.map V.int)) ∧ (∀ m ∈ ms, 0 < m ∧ m.natAbs < 2 ^ 101) ∧ ms.length ≤ 6 ∧ Q (.int (lcmG 1 ms)) H
theorem ok_L_lcm (T : Tx w K mg) : FnR P w K mg base CX0 2 (He.ga K "_law_lcm") (sp_L_lcm) := by
  refine mkR T.d_L_lcm sc_L_lcm (fun _ _ _ _ _ _ us hl => match us, hl with | [_], _ => rfl) (fun vs H Q E h => ?_) (fun cdv A outer s H vs Q E hr h => ?_)
  · obtain ⟨a, ms, rfl, _⟩ := h
    rfl
  · obtain ⟨a, ms, rfl, ha, hm, hl, k⟩ := h
    refine ⟨_, (pss_cons (ps_set (i := 1) sc_L_lcm.nd rfl (Or.inl rfl) pe_int) (pss_cons (ps_for PassesOwn.never rfl (pi_list (pv 0)) (pg_name (i := 2) sc_L_lcm.nd rfl (Or.inl rfl)) (pss_one (ps_set (i := 1) sc_L_lcm.nd rfl (Or.inl rfl) (pe_op op_mulW (pe_op op_fdivW (pv 1) (c_call (ok_L_gcd T) (hr.mono (by decide)) (by rfl) T.g_L_gcd (kp_of T.d_L_gcd) (pa_cons (pv 1) (pa_cons (pv 2) pa_nil)))) (pv 2))))) (pss_one (ps_ret (pv 1))))), ?_⟩
    refine ⟨_, rfl, a, rfl, ⟨_, SqL.of ha⟩, for_it (walk_list (K := K) (a := a) (xs := ms.map V.int)) (fun i σ H' => H' = H ∧ ∃ (L : Int) (z : Option V), σ = [some (.ref a), some (.int L), z] ∧ 0 < L ∧ L.natAbs ≤ 2 ^ (101 * i) ∧ lcmG L (ms.drop i) = lcmG 1 ms) ⟨rfl, 1, none, rfl, by decide, by decide, rfl⟩ (fun i σ H' _ h => by rw [h.1]; exact SqL.of ha) (fun i y σ H3 H4 hi hP hy => ?_) (fun σ H3 hP => ?_)⟩
    · obtain ⟨rfl, L, z, rfl, L0, Lb, hL⟩ := hP
      obtain ⟨rfl, hy⟩ := hy
      rw [List.length_map] at hi
      rw [List.getElem?_map] at hy
      obtain ⟨m, hm1, rfl⟩ := Option.map_eq_some_iff.mp hy
      obtain ⟨m0, mb⟩ := hm m (List.mem_of_getElem? hm1)
      rw [drop_of hm1] at hL
      obtain ⟨g0, g1, g2, u0, v0, gg⟩ := gcd_parts L0 m0
      have Lb2 : L.natAbs < big := Nat.lt_of_le_of_lt Lb (Nat.lt_of_le_of_lt (Nat.pow_le_pow_right (by decide) (show 101 * i ≤ 101 * 6 by omega)) (by decide +kernel))
      have mb2 : m.natAbs < big := Nat.lt_trans mb (by decide +kernel)
      have gb : ((Int.gcd L m : Nat) : Int).natAbs < big := by
        have : Int.gcd L m ∣ L.natAbs := Int.gcd_dvd_natAbs_left ..
        have := Nat.le_of_dvd (by omega) this
        omega
      have hs := Int.ediv_le_self (a := L) (Int.gcd L m : Nat) (by omega)
      have h9 : (L / ((Int.gcd L m : Nat) : Int)).natAbs ≤ L.natAbs := by omega
      refine ⟨_, rfl, _, rfl, _, rfl, _, _, rfl, _, _, rfl, rfl, cdivB g0 gb, _, rfl, _, _, rfl, rfl, cmulB (by omega) mb2, ?_⟩
      refine ⟨rfl, _, _, rfl, Int.mul_pos u0 m0, ?_, hL⟩
      rw [Int.natAbs_mul, show 101 * (i + 1) = 101 * i + 101 by omega, Nat.pow_add]
      exact Nat.mul_le_mul (by omega) (by omega)
    · obtain ⟨rfl, L, z, rfl, L0, Lb, hL⟩ := hP
      rw [List.length_map, List.drop_length] at hL
      have hL : L = _ := hL
      rw [← hL] at k
      exact ⟨_, rfl, k⟩
end
end Pp

set_option Elab.async false
set_option linter.all false
set_option maxRecDepth 100000
set_option maxHeartbeats 4000000
/-! the law's comparison -/
namespace Pp
open PySem PySem.Spec PyProof.Rows L2
section
variable {P : Program} {w : World} {K : PySem.W.Frag} {mg : Str → Option Value} {base : Heap}
theorem ne_true {b : Bool} : (!decide (V.bl b = V.bl b)) = false := by rw [decide_eq_true rfl] <;> rfl
def sp_same_leaf : Sp := fun vs H Q _ => ∃ x : V, vs = [x, x] ∧ ((∃ z, x = .str z) ∨ ∃ i, x = .int i) ∧ Q (.bl true) H
theorem ok_same_leaf (T : Tx w K mg) : FnR P w K mg base CX0 1 (He.ga K "_law_same") sp_same_leaf := by
  refine mkR T.d_L_same sc_L_same (fun _ _ _ _ _ _ us hl => match us, hl with | [_, _], _ => rfl) (fun vs H Q E h => ?_) (fun cdv A outer s H vs Q E hr h => ?_)
  · obtain ⟨x, rfl, _⟩ := h
    rfl
  · obtain ⟨x, rfl, hx, k⟩ := h
    refine ⟨_, (pss_cons (ps_if (PW.pt (pw_or (pt_val (pe_callB call_isi (by rfl) T.f_isinstance (by decide +kernel) (pa_cons (pv 1) (pa_cons (pe_bltn (v := .ty "list") (by rfl) T.f_list (by decide +kernel) rfl) pa_nil)))) (pw_or1 (pt_val (pe_callB call_isi (by rfl) T.f_isinstance (by decide +kernel) (pa_cons (pv 1) (pa_cons (pe_bltn (v := .ty "tuple") (by rfl) T.f_tuple (by decide +kernel) rfl) pa_nil))))))) pss_never pss_nil) (pss_cons (ps_if (pt_val (pe_callB call_isi (by rfl) T.f_isinstance (by decide +kernel) (pa_cons (pv 1) (pa_cons (pe_bltn (v := .ty "dict") (by rfl) T.f_dict (by decide +kernel) rfl) pa_nil)))) pss_never pss_nil) (pss_cons (ps_if (PW.pt (pw_or (pt_cmpR op_isN (pv 1) pe_non (nomark _)) (pw_or1 (pt_cmpR op_isN (pv 0) pe_non (nomark _))))) pss_never pss_nil) (pss_cons (ps_if (PW.pt (pw_or (pt_cmpR op_ne (pe_callB call_isi (by rfl) T.f_isinstance (by decide +kernel) (pa_cons (pv 0) (pa_cons (pe_bltn (v := .ty "bool") (by rfl) T.f_bool (by decide +kernel) rfl) pa_nil))) (pe_callB call_isi (by rfl) T.f_isinstance (by decide +kernel) (pa_cons (pv 1) (pa_cons (pe_bltn (v := .ty "bool") (by rfl) T.f_bool (by decide +kernel) rfl) pa_nil))) (nomark _)) (pw_or1 (pt_cmpR op_ne (pe_callB call_isi (by rfl) T.f_isinstance (by decide +kernel) (pa_cons (pv 0) (pa_cons (pe_bltn (v := .ty "int") (by rfl) T.f_int (by decide +kernel) rfl) pa_nil))) (pe_callB call_isi (by rfl) T.f_isinstance (by decide +kernel) (pa_cons (pv 1) (pa_cons (pe_bltn (v := .ty "int") (by rfl) T.f_int (by decide +kernel) rfl) pa_nil))) (nomark _))))) pss_never pss_nil) (pss_one (ps_ret (pe_and (pe_cmpR op_eq (pe_callB call_isi (by rfl) T.f_isinstance (by decide +kernel) (pa_cons (pv 0) (pa_cons (pe_bltn (v := .ty "str") (by rfl) T.f_str (by decide +kernel) rfl) pa_nil))) (pe_callB call_isi (by rfl) T.f_isinstance (by decide +kernel) (pa_cons (pv 1) (pa_cons (pe_bltn (v := .ty "str") (by rfl) T.f_str (by decide +kernel) rfl) pa_nil))) (nomark _)) (pe_one (pe_cmpR op_eq (pv 0) (pv 1) (nomark _)))))))))), ?_⟩
    rcases hx with ⟨z, rfl⟩ | ⟨i, rfl⟩
    · refine ⟨_, rfl, _, _, _, _, false, rfl, .ty _, .base (.str z), kit_ty (by decide +kernel), _, rfl, iteF ?_⟩
      refine ⟨_, rfl, _, _, _, _, false, rfl, .ty _, .base (.str z), kit_ty (by decide +kernel), _, rfl, iteF ?_⟩
      refine ⟨_, rfl, _, _, _, _, false, rfl, .ty _, .base (.str z), kit_ty (by decide +kernel), _, rfl, iteF ?_⟩
      refine ⟨_, rfl, rfl, _, rfl, ?_⟩
      rw [decide_eq_false (show ¬ V.str z = V.non by intro e; cases e)]
      refine iteF ⟨_, rfl, rfl, _, rfl, ?_⟩
      rw [decide_eq_false (show ¬ V.str z = V.non by intro e; cases e)]
      refine iteF ?_
      refine ⟨_, rfl, _, _, _, _, false, rfl, .ty _, .base (.str z), kit_ty (by decide +kernel), _, rfl, _, _, _, _, false, rfl, .ty _, .base (.str z), kit_ty (by decide +kernel), rfl, _, rfl, ?_⟩
      show (if (!decide (V.bl false = V.bl false)) = true then _ else _)
      rw [ne_true]
      refine iteF ⟨_, rfl, _, _, _, _, false, rfl, .ty _, .base (.str z), kit_ty (by decide +kernel), _, rfl, _, _, _, _, false, rfl, .ty _, .base (.str z), kit_ty (by decide +kernel), rfl, _, rfl, ?_⟩
      show (if (!decide (V.bl false = V.bl false)) = true then _ else _)
      rw [ne_true]
      refine iteF ⟨_, rfl, _, _, _, _, true, rfl, .ty _, .base (.str z), kit_ty (by decide +kernel), _, rfl, _, _, _, _, true, rfl, .ty _, .base (.str z), kit_ty (by decide +kernel), rfl, _, rfl, ?_⟩
      rw [decide_eq_true (show V.bl true = V.bl true from rfl)]
      refine iteT ⟨_, rfl, _, rfl, rfl, ?_⟩
      show Q (.bl (decide (V.str z = V.str z))) H
      rw [decide_eq_true rfl]
      exact k
    · refine ⟨_, rfl, _, _, _, _, false, rfl, .ty _, .base (.int i), kit_ty (by decide +kernel), _, rfl, iteF ?_⟩
      refine ⟨_, rfl, _, _, _, _, false, rfl, .ty _, .base (.int i), kit_ty (by decide +kernel), _, rfl, iteF ?_⟩
      refine ⟨_, rfl, _, _, _, _, false, rfl, .ty _, .base (.int i), kit_ty (by decide +kernel), _, rfl, iteF ?_⟩
      refine ⟨_, rfl, rfl, _, rfl, ?_⟩
      rw [decide_eq_false (show ¬ V.int i = V.non by intro e; cases e)]
      refine iteF ⟨_, rfl, rfl, _, rfl, ?_⟩
      rw [decide_eq_false (show ¬ V.int i = V.non by intro e; cases e)]
      refine iteF ?_
      refine ⟨_, rfl, _, _, _, _, false, rfl, .ty _, .base (.int i), kit_ty (by decide +kernel), _, rfl, _, _, _, _, false, rfl, .ty _, .base (.int i), kit_ty (by decide +kernel), rfl, _, rfl, ?_⟩
      show (if (!decide (V.bl false = V.bl false)) = true then _ else _)
      rw [ne_true]
      refine iteF ⟨_, rfl, _, _, _, _, true, rfl, .ty _, .base (.int i), kit_ty (by decide +kernel), _, rfl, _, _, _, _, true, rfl, .ty _, .base (.int i), kit_ty (by decide +kernel), rfl, _, rfl, ?_⟩
      show (if (!decide (V.bl true = V.bl true)) = true then _ else _)
      rw [ne_true]
      refine iteF ⟨_, rfl, _, _, _, _, false, rfl, .ty _, .base (.int i), kit_ty (by decide +kernel), _, rfl, _, _, _, _, false, rfl, .ty _, .base (.int i), kit_ty (by decide +kernel), rfl, _, rfl, ?_⟩
      rw [decide_eq_true (show V.bl false = V.bl false from rfl)]
      refine iteT ⟨_, rfl, _, rfl, rfl, ?_⟩
      show Q (.bl (decide (V.int i = V.int i))) H
      rw [decide_eq_true rfl]
      exact k
def sp_same_tup : Sp := fun vs H Q _ => ∃ (p q : Addr) (z : Str) (i : Int), vs = [.ref p, .ref q] ∧ H p = some (.tup [.str z, .int i]) ∧ H q = some (.tup [.str z, .int i]) ∧ ∀ H', Ex H H' → Q (.bl true) H'
theorem ok_same_tup (T : Tx w K mg) : FnR P w K mg base CX0 2 (He.ga K "_law_same") sp_same_tup := by
  refine mkR T.d_L_same sc_L_same (fun _ _ _ _ _ _ us hl => match us, hl with | [_, _], _ => rfl) (fun vs H Q E h => ?_) (fun cdv A outer s H vs Q E hr h => ?_)
  · obtain ⟨p, q, z, i, rfl, _⟩ := h
    rfl
  · obtain ⟨p, q, z, i, rfl, hp, hq, k⟩ := h
    refine ⟨_, (pss_cons (ps_if (PW.pt (pw_or (pt_val (pe_callB call_isi (by rfl) T.f_isinstance (by decide +kernel) (pa_cons (pv 1) (pa_cons (pe_bltn (v := .ty "list") (by rfl) T.f_list (by decide +kernel) rfl) pa_nil)))) (pw_or1 (pt_val (pe_callB call_isi (by rfl) T.f_isinstance (by decide +kernel) (pa_cons (pv 1) (pa_cons (pe_bltn (v := .ty "tuple") (by rfl) T.f_tuple (by decide +kernel) rfl) pa_nil))))))) (pss_cons (ps_if (PW.pt (pw_or (pt_cmpR op_ne (pe_callB call_isi (by rfl) T.f_isinstance (by decide +kernel) (pa_cons (pv 0) (pa_cons (pe_bltn (v := .ty "list") (by rfl) T.f_list (by decide +kernel) rfl) pa_nil))) (pe_callB call_isi (by rfl) T.f_isinstance (by decide +kernel) (pa_cons (pv 1) (pa_cons (pe_bltn (v := .ty "list") (by rfl) T.f_list (by decide +kernel) rfl) pa_nil))) (nomark _)) (pw_or1 (pt_cmpR op_ne (pe_callB call_isi (by rfl) T.f_isinstance (by decide +kernel) (pa_cons (pv 0) (pa_cons (pe_bltn (v := .ty "tuple") (by rfl) T.f_tuple (by decide +kernel) rfl) pa_nil))) (pe_callB call_isi (by rfl) T.f_isinstance (by decide +kernel) (pa_cons (pv 1) (pa_cons (pe_bltn (v := .ty "tuple") (by rfl) T.f_tuple (by decide +kernel) rfl) pa_nil))) (nomark _))))) (pss_one (ps_ret pe_bl)) pss_nil) (pss_one (ps_ret (pe_and (pe_cmpR op_eq (pe_callB call_len_seq (by rfl) T.f_len (by decide +kernel) (pa_cons (pv 0) pa_nil)) (pe_callB call_len_seq (by rfl) T.f_len (by decide +kernel) (pa_cons (pv 1) pa_nil)) (nomark _)) (pe_one (pe_callB (cr_all rfl) (by rfl) T.f_all (by decide +kernel) (pa_cons (pe_lc (own := [("_law_one", 2), ("_law_other", 3)]) (g := gTup K 2 (gCons (gName 2) (gCons (gName 3) gNil))) (by rfl) sc_L_same.nd (RZ.pi_zipA (by rfl) T.f_zip (pa_cons (pv 0) (pa_cons (pv 1) pa_nil))) (blkOk_by (own := [("_law_one", 2), ("_law_other", 3)]) (N := n_L_same) (sc := defScope s_L_same) (by decide +kernel)) (fun _ _ _ _ _ => (pg_tup (by rfl) (pgs_cons (pg_name (i := 2) sc_L_same.nd rfl (Or.inl rfl)) (pgs_cons (pg_name (i := 3) sc_L_same.nd rfl (Or.inl rfl)) pgs_nil)))) (fun _ _ _ _ _ => pts_nil) (fun _ _ _ _ _ => (c_call (ok_same_leaf T) (hr.mono (by decide)) (by rfl) T.g_L_same (kp_of T.d_L_same) (pa_cons (pv 2) (pa_cons (pv 3) pa_nil))))) pa_nil))))))) pss_nil) pss_never), ?_⟩
    refine ⟨_, rfl, _, _, _, _, false, rfl, .ty _, .base (.tup hq), kit_ty (by decide +kernel), _, rfl, iteF ?_⟩
    refine ⟨_, rfl, _, _, _, _, true, rfl, .ty _, .base (.tup hq), kit_ty (by decide +kernel), _, rfl, iteT ?_⟩
    refine ⟨_, rfl, _, _, _, _, false, rfl, .ty _, .base (.tup hp), kit_ty (by decide +kernel), _, rfl, _, _, _, _, false, rfl, .ty _, .base (.tup hq), kit_ty (by decide +kernel), rfl, _, rfl, ?_⟩
    show (if (!decide (V.bl false = V.bl false)) = true then _ else _)
    rw [ne_true]
    refine iteF ⟨_, rfl, _, _, _, _, true, rfl, .ty _, .base (.tup hp), kit_ty (by decide +kernel), _, rfl, _, _, _, _, true, rfl, .ty _, .base (.tup hq), kit_ty (by decide +kernel), rfl, _, rfl, ?_⟩
    show (if (!decide (V.bl true = V.bl true)) = true then _ else _)
    rw [ne_true]
    refine iteF ?_
    refine ⟨_, rfl, p, _, rfl, .inr (SqT.of hp), _, rfl, q, _, rfl, .inr (SqT.of hq), rfl, _, rfl, ?_⟩
    rw [decide_eq_true (show V.int (([V.str z, V.int i] : List V).length : Nat) = V.int (([V.str z, V.int i] : List V).length : Nat) from rfl)]
    refine iteT ⟨_, rfl, _, rfl, p, q, _, _, rfl, .inr ⟨SqT.of hp, SqT.of hq, fun D hD => lcx (walk_zipT (K := K) (a := p) (b := q) (xs := [V.str z, V.int i]) (ys := [V.str z, V.int i]) rfl) hD (by show 2 < 100000; decide) (fun i acc _ => acc = (List.replicate i true).map V.bl) (fun H' e => ⟨SqT.of (e _ _ hp), SqT.of (e _ _ hq)⟩) (fun _ _ _ _ _ h => h) rfl (fun j x H3 H4 kk hi e3 y kq => ?_) (fun acc H3 e3 ha hl3 hacc => ?_)⟩⟩
    · obtain ⟨tp, a, b, rfl, nt, rfl, ha, hb⟩ := y
      have hab : a = b := by
        rw [ha] at hb
        exact Option.some.inj hb
      subst hab
      refine ⟨tp, _, rfl, SqT.of upd_same, rfl, _, _, rfl, _, _, rfl, rfl, rfl, ?_⟩
      refine ⟨_, rfl, _, rfl, _, rfl, ?_, kq _ _ (Ex.new nt) fun acc hal hr => ?_⟩
      · match j, hi, ha with
        | 0, _, ha => cases ha; exact .inl ⟨_, rfl⟩
        | 1, _, ha => cases ha; exact .inr ⟨_, rfl⟩
      · rw [hr, List.replicate_succ', List.map_append] <;> rfl
    · subst hacc
      refine ⟨D, List.replicate 2 true, rfl, SqL.of ha, ?_⟩
      rw [all_true]
      exact k _ e3
end
end Pp

set_option Elab.async false
set_option linter.all false
set_option maxRecDepth 100000
set_option maxHeartbeats 4000000
/-! the law -/
namespace Pp
open PySem PySem.Spec PyProof.Rows L2
structure GoodIn (ws : List Mv) (n : Int) : Prop where
  ok : ∀ m ∈ ws, m.ok
  len : ws.length ≤ 4
  n0 : 200 ≤ n
  n1 : n ≤ 10 ^ 30
/-- a want that is met at R, and at all rounds that leave the same -/
structure WantOk (ws : List Mv) (n R : Int) (x : Wt) : Prop where
  wt : WtOk ws n R x
  again : ∀ R', 0 ≤ R' → R' % x.m = R % x.m → ∀ N, TrkOk ws n x.place N → (afterF (wayL ws n x.place N) x.place R').1 = x.goal ∧ ∀ b, x.face = some b → (afterF (wayL ws n x.place N) x.place R').2 = b
structure MathP : Prop where
  big : ∀ ws n, GoodIn ws n → BigOk ws n
  trk : ∀ ws n p, GoodIn ws n → 0 ≤ p → p < n → ∃ N, TrkOk ws n p N
  want : ∀ ws n p N R (face : Option Bool), GoodIn ws n → 0 ≤ p → p < n → TrkOk ws n p N → 0 ≤ R → (face = none ∨ face = some (afterF (wayL ws n p N) p R).2) → ∃ m, WantOk ws n R ⟨p, (afterF (wayL ws n p N) p R).1, face, m⟩
theorem lcmF_pos : ∀ {ms : List Int} {L : Int}, 0 < L → (∀ m ∈ ms, 0 < m) → 0 < lcmF L ms
  | [], L, h, _ => h
  | m :: r, L, h, hm => by
    have m0 := hm m (List.mem_cons_self)
    obtain ⟨g0, g1, g2, u0, v0, gg⟩ := gcd_parts h m0
    exact lcmF_pos (L := L * (m / (Int.gcd L m : Nat))) (Int.mul_pos h v0) (fun x hx => hm x (List.mem_cons_of_mem _ hx))
theorem lcm_step {L m : Int} (h : 0 < L) (m0 : 0 < m) : L * (m / (Int.gcd L m : Nat)) = L / (Int.gcd L m : Nat) * m := by
  rw [← Int.mul_ediv_assoc L (Int.gcd_dvd_right L m), Int.mul_comm (L / _) m, ← Int.mul_ediv_assoc m (Int.gcd_dvd_left L m), Int.mul_comm m L]
theorem lcm_same : ∀ {ms : List Int} {L : Int}, 0 < L → (∀ m ∈ ms, 0 < m) → lcmF L ms = lcmG L ms
  | [], L, h, _ => rfl
  | m :: r, L, h, hm => by
    have m0 := hm m (List.mem_cons_self)
    obtain ⟨g0, g1, g2, u0, v0, gg⟩ := gcd_parts h m0
    show lcmF (L * (m / (Int.gcd L m : Nat))) r = lcmG (L / (Int.gcd L m : Nat) * m) r
    rw [← lcm_step h m0]
    exact lcm_same (Int.mul_pos h v0) (fun x hx => hm x (List.mem_cons_of_mem _ hx))
theorem lcmF_base : ∀ {ms : List Int} {L : Int}, L ∣ lcmF L ms
  | [], L => Int.dvd_refl L
  | m :: r, L => Int.dvd_trans (Int.dvd_mul_right L _) (lcmF_base (ms := r))
theorem lcmF_dvd : ∀ {ms : List Int} {L m : Int}, 0 < L → (∀ m ∈ ms, 0 < m) → m ∈ ms → m ∣ lcmF L ms
  | a :: r, L, m, h, hm, hin => by
    have a0 := hm a (List.mem_cons_self)
    obtain ⟨g0, g1, g2, u0, v0, gg⟩ := gcd_parts h a0
    rcases List.mem_cons.mp hin with rfl | hin
    · refine Int.dvd_trans ?_ (lcmF_base (ms := r))
      rw [lcm_step h a0]
      exact Int.dvd_mul_left _ _
    · exact lcmF_dvd (ms := r) (Int.mul_pos h v0) (fun x hx => hm x (List.mem_cons_of_mem _ hx)) hin
def faceD : Option Bool → PyData
  | none => .none
  | some b => .bool b
def wtD (x : Wt) : PyData := .tuple [.int x.place, .int x.goal, faceD x.face]
theorem wt_dp {K : PySem.W.Frag} {H : Hp} {v : V} {x : Wt} (h : WtAt H v x) : Dp K H v (wtD x) := by
  obtain ⟨p, rfl, hp⟩ := h
  refine .tup (SqT.of hp) (.cons (.int _) (.cons (.int _) (.cons ?_ .nil)))
  cases x.face with
  | none => exact .non
  | some b => exact .bl b
theorem wts_dp {K : PySem.W.Frag} {H : Hp} : ∀ {vs : List V} {l : List Wt}, Paired (WtAt H) vs l → DpAll K H vs (l.map wtD)
  | _, _, .nil => .nil
  | _, _, .cons h t => .cons (wt_dp h) (wts_dp t)
theorem wts_ok : ∀ (l : List Wt), PyData.canLayAll0 (l.map wtD) = true
  | [] => rfl
  | a :: l => by
    rw [List.map_cons, PyData.canLayAll0, wts_ok l]
    cases h : a.face <;> simp [wtD, faceD, h, PyData.canLay0, PyData.canLayAll0]
theorem wts_depth : ∀ (l : List Wt), PyData.depthAll (l.map wtD) ≤ 2
  | [] => by simp [PyData.depthAll]
  | a :: l => by
    have := wts_depth l
    rw [List.map_cons]
    cases h : a.face <;> simp [PyData.depthAll, wtD, faceD, h, PyData.depth] <;> omega
theorem wts_shaped (l : List Wt) : SeqAt.shaped (.list (l.map wtD)) = true := by
  show ((PyData.list (l.map wtD)).canLay0 && decide ((PyData.list (l.map wtD)).depth ≤ 64)) = true
  have h1 := wts_ok l
  have h2 := wts_depth l
  rw [PyData.canLay0, h1, Bool.true_and, decide_eq_true_eq, PyData.depth]
  omega
theorem wts_eqv (l : List Wt) : (!PyData.eqv (.list (l.map wtD)) (.list (l.map wtD))) = false := by
  have e : PyData.eqv (.list (l.map wtD)) (.list (l.map wtD)) = true := by
    refine PySem.W.eqv_refl_alike _ ?_
    rw [PySem.W.alike]
    induction l with
    | nil => rfl
    | cons a l ih =>
      rw [List.map_cons, PySem.W.alikeAll, ih, Bool.and_true]
      cases h : a.face <;> simp [wtD, faceD, h, PySem.W.alike, PySem.W.alikeAll]
  rw [e] <;> rfl
section
variable {P : Program} {w : World} {K : PySem.W.Frag} {mg : Str → Option Value} {base : Heap}
def sp_law : Sp := fun vs H Q _ => ∃ (a : Addr) (ns : List Int), vs = [.ref a] ∧ SqL K H a (ns.map V.int) ∧ ∀ H', Q (.bl true) H'
theorem ok_law (T : Tx w K mg) (M : MathP) {fd : FuncData} (F : FunD K "law" "law" (defArgs s_law) (defBody s_law) (defScope s_law) [] [] (He.ga K "law") fd) : FnOk P w K mg base CX0 14 (He.ga K "law") fd ["_law_script"] (sp_law (K := K)) := by
  refine F.ok sc_law (fun vs H Q E h => ?_) (fun cdv A outer s H vs Q E hr h => ?_)
  · obtain ⟨a, ns, rfl, _⟩ := h
    rfl
  · suffices z : ∃ t, PSs (cxOf CX0 P w K mg base n_law "law" (defScope s_law) (He.ga K "law") cdv A outer s H E).nox (defBody s_law) t ∧ t { nx := fun _ H' => Q .non H', rt := Q } (L2.start n_law vs) H from let ⟨t, a, q⟩ := z; ⟨t, a.nox, q⟩
    obtain ⟨a, ns, rfl, ha, k⟩ := h
    refine ⟨_, (pss_cons (ps_set (i := 1) sc_law.nd rfl (Or.inl rfl) (c_call (ok_L_bag T) (hr.mono (by decide)) (by rfl) T.g_L_bag (kp_of T.d_L_bag) (pa_cons (pv 0) pa_nil))) (pss_cons (ps_for PassesOwn.never rfl (pi_range1 (by rfl) T.f_range (pa_cons pe_int pa_nil)) (pg_name (i := 2) sc_law.nd rfl (Or.inl rfl)) (pss_cons (ps_asg (pe_tup (pa_cons (c_call (ok_L_moves T) (hr.mono (by decide)) (by rfl) T.g_L_moves (kp_of T.d_L_moves) (pa_cons (pv 1) (pa_cons pe_int (pa_cons pe_int pa_nil)))) (pa_cons (c_call (ok_L_great T) (hr.mono (by decide)) (by rfl) T.g_L_great (kp_of T.d_L_great) (pa_cons (pv 1) pa_nil)) pa_nil))) (pg_tup (by rfl) (pgs_cons (pg_name (i := 3) sc_law.nd rfl (Or.inl rfl)) (pgs_cons (pg_name (i := 4) sc_law.nd rfl (Or.inr rfl)) pgs_nil)))) (pss_cons (ps_asg (pe_tup (pa_cons (c_call (ok_L_made T) (hr.mono (by decide)) (by rfl) T.g_L_made (kp_of T.d_L_made) (pa_cons (pv 3) pa_nil)) (pa_cons (c_call (ok_L_of T) (hr.mono (by decide)) (by rfl) T.g_L_of (kp_of T.d_L_of) (pa_cons (pv 1) (pa_cons (pe_lst (pa_cons (c_call (ok_L_pull T) (hr.mono (by decide)) (by rfl) T.g_L_pull (kp_of T.d_L_pull) (pa_cons (pv 1) (pa_cons pe_int pa_nil))) (pa_cons (c_call (ok_L_pull T) (hr.mono (by decide)) (by rfl) T.g_L_pull (kp_of T.d_L_pull) (pa_cons (pv 1) (pa_cons (pe_op op_pow pe_int pe_int) pa_nil))) pa_nil))) pa_nil))) pa_nil))) (pg_tup (by rfl) (pgs_cons (pg_name (i := 5) sc_law.nd rfl (Or.inr rfl)) (pgs_cons (pg_name (i := 6) sc_law.nd rfl (Or.inl rfl)) pgs_nil)))) (pss_cons (ps_set (i := 7) sc_law.nd rfl (Or.inl rfl) (pe_lst pa_nil)) (pss_cons (ps_for PassesOwn.never rfl (pi_range1 (by rfl) T.f_range (pa_cons (c_call (ok_L_pull T) (hr.mono (by decide)) (by rfl) T.g_L_pull (kp_of T.d_L_pull) (pa_cons (pv 1) (pa_cons pe_int pa_nil))) pa_nil)) (pg_name (i := 8) sc_law.nd rfl (Or.inl rfl)) (pss_cons (ps_set (i := 9) sc_law.nd rfl (Or.inl rfl) (c_call (ok_L_place_of T) (hr.mono (by decide)) (by rfl) T.g_L_place_of (kp_of T.d_L_place_of) (pa_cons (pv 1) (pa_cons (pv 4) pa_nil)))) (pss_cons (ps_asg (c_call (ok_after T) (hr.mono (by decide)) (by rfl) T.g_after (kp_of T.d_after) (pa_cons (pv 5) (pa_cons (pv 4) (pa_cons (pv 9) (pa_cons (pv 6) pa_nil))))) (pg_tup (by rfl) (pgs_cons (pg_name (i := 10) sc_law.nd rfl (Or.inl rfl)) (pgs_cons (pg_name (i := 11) sc_law.nd rfl (Or.inl rfl)) pgs_nil)))) (pss_one (ps_expr (pe_bm PySem.F.plainAttrs_list PySem.F.slot_list_append PySem.F.type_list_append mt_append (pv 7) (pa_cons (pe_tup (pa_cons (pv 9) (pa_cons (pv 10) (pa_cons (c_call (ok_L_of T) (hr.mono (by decide)) (by rfl) T.g_L_of (kp_of T.d_L_of) (pa_cons (pv 1) (pa_cons (pe_lst (pa_cons pe_non (pa_cons (pv 11) pa_nil))) pa_nil))) pa_nil)))) pa_nil))))))) (pss_cons (ps_setLc (i := 12) (own := [("_law_place", 9), ("_law_goal", 10), ("_law_face", 11)]) (g := gTup K 3 (gCons (gName 9) (gCons (gName 10) (gCons (gName 11) gNil)))) (te := tOp (rIxT K) (tCallN 4 (["turned"] : List Str).length (sp_meeting (K := K)) (fun vs zs => vs ++ zs) E0 (tCons (tVar 5) (tCons (tVar 4) (tCons (tVar 9) (tCons (tVar 10) tNil)))) (tCons (tVar 11) tNil)) (tC (.int 1))) (by rfl) sc_law.nd rfl rfl (sw_true rfl rfl rfl (by decide +kernel)) (pi_list (pv 7)) (blkOk_by (own := [("_law_place", 9), ("_law_goal", 10), ("_law_face", 11)]) (N := n_law) (sc := defScope s_law) (by decide +kernel)) (fun _ _ _ _ _ => (pg_tup (by rfl) (pgs_cons (pg_name (i := 9) sc_law.nd rfl (Or.inl rfl)) (pgs_cons (pg_name (i := 10) sc_law.nd rfl (Or.inl rfl)) (pgs_cons (pg_name (i := 11) sc_law.nd rfl (Or.inl rfl)) pgs_nil))))) (fun _ _ _ _ _ => pts_nil) (fun _ _ _ _ _ => (pe_ix ix_tup (pe_callN (ok_meeting T).choose_spec.1 (hr.mono (by decide)) (by rfl) T.g_meeting (kp_of T.d_meeting) (ok_meeting T).choose_spec.2 pass0 (pa_cons (pv 5) (pa_cons (pv 4) (pa_cons (pv 9) (pa_cons (pv 10) pa_nil)))) (pk_cons (pv 11) pk_nil)) pe_int (fun _ _ => rfl)))) (pss_cons (ps_par (i := 13) (j := 14) (by rfl) sc_law.nd rfl rfl (by decide) rfl rfl (pa_cons (c_call (ok_wish T) (hr.mono (by decide)) (by rfl) T.g_wish (kp_of T.d_wish) (pa_cons (pv 5) (pa_cons (pv 4) (pa_cons (pv 7) pa_nil)))) (pa_cons (pe_callTy call_list_of (by rfl) T.f_list (by decide +kernel) (pa_cons (pv 7) pa_nil)) pa_nil)) (by rfl)) (pss_cons (ps_if (PW.pt (pw_or (pt_not (pt_val (c_call (ok_same_tup T) (hr.mono (by decide)) (by rfl) T.g_L_same (kp_of T.d_L_same) (pa_cons (pv 13) (pa_cons (pe_tup (pa_cons pe_str (pa_cons (pe_op op_mod (pe_callTy call_intR (by rfl) T.f_int (by decide +kernel) (pa_cons (pv 6) pa_nil)) (c_call (ok_L_lcm T) (hr.mono (by decide)) (by rfl) T.g_L_lcm (kp_of T.d_L_lcm) (pa_cons (pv 12) pa_nil))) pa_nil))) pa_nil))))) (pw_or1 (pt_cmpR (op_neD hr.units) (pv 7) (pv 14) (nomark _))))) (pss_one (ps_ret pe_bl)) pss_nil) (pss_one (ps_if (pt_cmpR op_le (pe_ix ix_tup (pv 13) pe_int (fun _ _ => rfl)) (pe_op op_pow pe_int pe_int) (nomark _)) (pss_one (ps_for PassesOwn.never rfl (pi_list (pv 7)) (pg_tup (by rfl) (pgs_cons (pg_name (i := 9) sc_law.nd rfl (Or.inl rfl)) (pgs_cons (pg_name (i := 10) sc_law.nd rfl (Or.inl rfl)) (pgs_cons (pg_name (i := 11) sc_law.nd rfl (Or.inl rfl)) pgs_nil)))) (pss_cons (ps_set (i := 15) sc_law.nd rfl (Or.inl rfl) (c_call (ok_after T) (hr.mono (by decide)) (by rfl) T.g_after (kp_of T.d_after) (pa_cons (pv 5) (pa_cons (pv 4) (pa_cons (pv 9) (pa_cons (pe_ix ix_tup (pv 13) pe_int (fun _ _ => rfl)) pa_nil)))))) (pss_one (ps_if (PW.pt (pw_or (pt_cmpR op_ne (pe_ix ix_tup (pv 15) pe_int (fun _ _ => rfl)) (pv 10) (nomark _)) (pw_or1 (PW.pt (pw_and (pt_cmpR op_notN (pv 11) pe_non (nomark _)) (pw_and1 (pt_cmpR op_ne (pe_ix ix_tup (pv 15) pe_int (fun _ _ => rfl)) (pv 11) (nomark _)))))))) (pss_one (ps_ret pe_bl)) pss_nil))))) pss_nil)))))))))) (pss_one (ps_ret pe_bl)))), ?_⟩
    refine ⟨_, rfl, a, ns, rfl, ha, fun bg bl H1 e1 b1 hbn => ?_⟩
    refine ⟨_, rfl, by decide, by decide, for_it (walk_range (lo := 0) (n := 3)) (fun i σ H' => BagAt H' bg bl ∧ ∃ (a2 a3 a4 a5 a6 a7 a8 a9 a10 a11 a12 a13 a14 a15 : Option V), σ = [some (.ref a), some (.ref bg), a2, a3, a4, a5, a6, a7, a8, a9, a10, a11, a12, a13, a14, a15]) ⟨b1, _, _, _, _, _, _, _, _, _, _, _, _, _, _, rfl⟩ (fun _ _ _ _ _ => trivial) (fun i y σ H3 H4 hi hP hy => ?_) (fun σ H3 hP => ?_)⟩
    · obtain ⟨b3, a2, a3, a4, a5, a6, a7, a8, a9, a10, a11, a12, a13, a14, a15, rfl⟩ := hP
      obtain ⟨rfl, rfl⟩ := hy
      refine ⟨_, rfl, bg, bl, rfl, b3, fun q xs ws H5 qn hq hm ok hlen e5 b5 => ?_⟩
      refine ⟨_, rfl, bg, bl, rfl, b5, fun n H6 n0 n1 e6 b6 => ⟨(by show 2 ≤ sizeLine; decide), fun p7 n7 => ?_⟩⟩
      generalize hh7 : upd _ p7 _ = H7; obtain ⟨e7, t7⟩ := upd_facts n7 hh7; clear hh7
      have qb : q ≠ bg := new_ne qn b3
      have hq7 := e7 _ _ (e6 _ _ qb hq)
      have hm7 : MvsAt H7 xs ws := MvsAt.mono ((b5.n e6).trans e7.n) hm
      have b7 := b6.mono e7
      clear hq hm e5 e6 b5 b6 qn n7 e7
      refine ⟨p7, _, rfl, SqT.of t7, rfl, _, _, rfl, _, _, rfl, rfl, ?_⟩
      have G : GoodIn ws n := ⟨ok, hlen, n0, n1⟩
      have B : BigOk ws n := M.big ws n G
      refine ⟨_, rfl, q, xs, ws, rfl, hq7, hm7, ok, hlen, fun wq H8 e8 w8 => ?_⟩
      have b8 := b7.mono e8
      refine ⟨_, rfl, _, rfl, bg, bl, _, rfl, b8, by decide, by decide +kernel, fun r1 H9 e9 b9 r10 r11 => ?_⟩
      refine ⟨_, rfl, _, _, rfl, rfl, ⟨by decide, by decide, by decide⟩, bg, bl, _, rfl, b9, by decide +kernel, by decide +kernel, fun r2 H10 e10 b10 r20 r21 => ⟨(by show 2 ≤ sizeLine; decide), fun p11 n11 => ?_⟩⟩
      generalize hh11 : upd _ p11 _ = H11; obtain ⟨e11, t11⟩ := upd_facts n11 hh11; clear hh11
      have b11 := b10.mono e11
      refine ⟨bg, bl, p11, _, rfl, b11, t11, new_ne n11 b10, (by show 0 < 2; decide), (by show 2 ≤ 1000; decide), fun ix xr H12 hx e12 b12 => ⟨(by show 2 ≤ sizeLine; decide), fun p13 n13 => ?_⟩⟩
      generalize hh13 : upd _ p13 _ = H13; obtain ⟨e13, t13⟩ := upd_facts n13 hh13; clear hh13
      have hR : ∃ R : Int, xr = .int R ∧ 0 ≤ R ∧ R ≤ 10 ^ 30 := by
        have h30 : (10 : Int) ^ (30 : Int).toNat = 10 ^ 30 := rfl
        have v1 : (10 ^ 30 : Int) = 1000000000000000000000000000000 := by decide +kernel
        rw [h30] at r21
        match ix, hx with
        | 0, hx =>
          cases hx
          exact ⟨_, rfl, r10, by omega⟩
        | 1, hx =>
          cases hx
          exact ⟨_, rfl, r20, by omega⟩
      obtain ⟨R, rfl, R0, R1⟩ := hR
      have b13 := b12.mono e13
      have w13 : WdAt K H13 (.ref wq) ws := ((((w8.mono (b8.n e9)).mono (b9.n e10)).mono e11.n).mono (b11.n e12)).mono e13.n
      refine ⟨p13, _, rfl, SqT.of t13, rfl, _, _, rfl, _, _, rfl, rfl, ?_⟩
      clear w8 e8 e9 e10 e11 e12 e13 b8 b9 b10 b11 b12 t11 t13 hq7 hm7 b7 t7 n11 n13
      refine ⟨(by show 0 ≤ sizeLine; decide), fun W nW => ?_⟩
      generalize hh14 : upd _ W _ = H14; obtain ⟨e14, t14⟩ := upd_facts nW hh14; clear hh14
      have Wb : W ≠ bg := new_ne nW b13
      have Wl : W ≠ bl := new_ne2 nW b13
      have b14 := b13.mono e14
      have w14 := w13.mono e14.n
      clear w13 b13 e14 nW
      refine ⟨_, rfl, bg, bl, _, rfl, b14, by decide, by decide +kernel, fun r3 H15 e15 b15 r30 r31 => ?_⟩
      have r31 : r3 < 7 := r31
      have w15 := w14.mono (b14.n e15)
      have t15 := e15 _ _ Wb t14
      clear w14 b14 e15 t14
      refine ⟨_, rfl, by omega, by omega, for_it (walk_range (lo := 0) (n := r3.toNat)) (fun j σ H' => BagAt H' bg bl ∧ WdAt K H' (.ref wq) ws ∧ ∃ (ys : List V) (wants : List Wt) (c8 c9 c10 c11 : Option V), H' W = some (.lst ys) ∧ Paired (WtAt H') ys wants ∧ (∀ x ∈ wants, WantOk ws n R x) ∧ wants.length = j ∧
        σ = [some (.ref a), some (.ref bg), some (.int (0 + (i : Nat))), some (.ref q), some (.int n), some (.ref wq), some (.int R), some (.ref W), c8, c9, c10, c11, a12, a13, a14, a15])
        ⟨b15, w15, [], [], _, _, _, _, t15, .nil, fun x hx => (by cases hx), rfl, rfl⟩ (fun _ _ _ _ _ => trivial) (fun j y σ H16 H17 hj hP hy => ?_) (fun σ H16 hP => ?_)⟩
      · obtain ⟨b16, w16, ys, wants, c8, c9, c10, c11, hW, hp, hx, hl, rfl⟩ := hP
        obtain ⟨rfl, rfl⟩ := hy
        refine ⟨_, rfl, _, rfl, bg, bl, n, rfl, b16, n0, n1, fun p H18 p0 p1 e18 b18 => ?_⟩
        obtain ⟨N, Y⟩ := M.trk ws n p G p0 p1
        have w18 := w16.mono (b16.n e18)
        refine ⟨_, rfl, _, rfl, _, rfl, _, rfl, _, ws, n, p, R, N, rfl, w18, B, p0, p1, R0, R1, Y, fun v' H19 e19 hv => ?_⟩
        obtain ⟨g, rfl, hg⟩ := hv
        refine ⟨g, _, rfl, SqT.of hg, rfl, _, _, rfl, _, _, rfl, rfl, ?_⟩
        have b19 := b18.mono e19
        have w19 := w18.mono e19.n
        have W19 := e19 _ _ (e18 _ _ Wb hW)
        have hp19 : Paired (WtAt H19) ys wants := Paired.mapP hp fun _ _ q => (q.mono (b16.n e18)).mono e19.n
        refine ⟨_, rfl, .inl ⟨rfl, _, SqL.of W19⟩, _, rfl, _, rfl, _, rfl, _, rfl, (by show 2 ≤ sizeLine; decide), fun p20 n20 => ?_⟩
        generalize hh20 : upd _ p20 _ = H20; obtain ⟨e20, t20⟩ := upd_facts n20 hh20; clear hh20
        refine ⟨bg, bl, p20, _, rfl, b19.mono e20, t20, new_ne n20 b19, (by show 0 < 2; decide), (by show 2 ≤ 1000; decide), fun ix xf H21 hxf e21 b21 => ⟨(by show 3 ≤ sizeLine; decide), fun p22 n22 => ?_⟩⟩
        generalize hh22 : upd _ p22 _ = H22; obtain ⟨e22, t22⟩ := upd_facts n22 hh22; clear hh22
        have b20 := b19.mono e20
        have hf : ∃ face : Option Bool, xf = faceV face ∧ (face = none ∨ face = some (afterF (wayL ws n p N) p R).2) := by
          match ix, hxf with
          | 0, hxf =>
            cases hxf
            exact ⟨none, rfl, .inl rfl⟩
          | 1, hxf =>
            cases hxf
            exact ⟨some _, rfl, .inr rfl⟩
        obtain ⟨face, rfl, hface⟩ := hf
        obtain ⟨m, wok⟩ := M.want ws n p N R face G p0 p1 Y R0 hface
        have W22 := e22 _ _ (e21 _ _ Wb (e20 _ _ W19))
        have en22 : En H19 H22 := (e20.n.trans (b20.n e21)).trans e22.n
        have enp : En H22 (upd H22 W (.lst (ys ++ [.ref p22]))) := En.put W22
        have ly := paired_len hp
        refine ⟨W, ys, _, rfl, rfl, W22, sz4' (by omega), (b21.mono e22).put Wb Wl, (w19.mono en22).mono enp, ys ++ [.ref p22], wants ++ [⟨p, (afterF (wayL ws n p N) p R).1, face, m⟩], _, _, _, _, upd_same, ?_, fun x hx' => ?_, by rw [List.length_append, hl] <;> rfl, rfl⟩
        · exact paired_app (Paired.mapP hp19 fun _ _ q => (q.mono en22).mono enp) (.cons ⟨p22, rfl, enp _ _ t22 rfl⟩ .nil)
        · rcases List.mem_append.mp hx' with h | h
          · exact hx x h
          · rw [List.mem_singleton.mp h]
            exact wok
      · obtain ⟨b16, w16, ys, wants, c8, c9, c10, c11, hW, hp, hx, hl, rfl⟩ := hP
        have hl6 : wants.length ≤ 6 := by omega
        clear hl r30 r31
        have ly := paired_len hp
        have wd0 : Wt := ⟨0, 0, none, 0⟩
        have hm0 : ∀ m ∈ wants.map Wt.m, 0 < m ∧ m.natAbs < 2 ^ 101 := fun m hm => by
          obtain ⟨x, hx1, rfl⟩ := List.mem_map.mp hm
          have h0 := (hx x hx1).wt.m0
          have h1 := (hx x hx1).wt.m1
          have h2 : (2 * 10 ^ 30 : Int) < 2 ^ 101 := by decide +kernel
          exact ⟨h0, by omega⟩
        have hpos := lcmF_pos (L := 1) (ms := wants.map Wt.m) (by decide) (fun m hm => (hm0 m hm).1)
        refine ⟨_, rfl, W, rfl, ⟨ys, SqL.of hW⟩, fun D hD => lcR (walk_list (K := K) (a := W) (xs := ys)) hD (by omega) (fun _ v (x : Wt) => v = V.int x.m) (fun i => wants.getD i wd0) (fun _ _ _ _ _ h => h) (fun H' e => SqL.of (e _ _ hW)) (fun j y H17 H18 kk hj e17 yy kq => ?_) (fun acc H17 e17 hD17 hacc => ?_)⟩
        · obtain ⟨rfl, hy⟩ := yy
          obtain ⟨x, hx1, hx2⟩ := paired_get hp hy
          obtain ⟨r, rfl, hr1⟩ := hx2.mono e17.n
          refine ⟨r, _, rfl, SqT.of hr1, rfl, _, _, rfl, _, _, rfl, _, _, rfl, rfl, rfl, ?_⟩
          refine ⟨_, rfl, _, rfl, _, rfl, _, rfl, _, rfl, rfl, rfl, _, ws, n, x, R, rfl, w16.mono e17.n, B, (hx x (List.mem_of_getElem? hx1)).wt, fun v' H19 e19 hv => ?_⟩
          obtain ⟨r9, rfl, hr9⟩ := hv
          refine ⟨r9, _, 1, _, rfl, rfl, SqT.of hr9, atI_nat (j := 1) rfl, kq _ _ e19 ?_⟩
          rw [List.getD_eq_getElem?_getD, hx1] <;> rfl
        rw [show (List.range ys.length).map (fun i => wants.getD i wd0) = wants by rw [ly]; exact range_getD wants wd0] at hacc
        have eacc := paired_eq (f := fun x : Wt => V.int x.m) hacc
        rw [show wants.map (fun x : Wt => V.int x.m) = (wants.map Wt.m).map V.int by rw [List.map_map] <;> rfl] at eacc
        subst eacc
        have w17 := w16.mono e17.n
        have hp17 : Paired (WtAt H17) ys wants := Paired.mapP hp fun _ _ q => q.mono e17.n
        refine ⟨_, rfl, _, rfl, _, rfl, _, ws, n, W, ys, wants, R, rfl, w17, B, e17 _ _ hW, hp17, fun x hx' => (hx x hx').wt, hl6, fun tp H18 e18 htp => ?_⟩
        have e1618 := e17.trans e18
        refine ⟨_, rfl, W, ys, rfl, .inl (SqL.of (e1618 _ _ hW)), fun kp nk => ?_⟩
        generalize hh19 : upd _ kp _ = H19; obtain ⟨e19, t19⟩ := upd_facts nk hh19; clear hh19
        have e1619 := e1618.trans e19
        refine ⟨_, _, rfl, ?_⟩
        have htp19 := e19 _ _ htp
        have hD19 := e19 _ _ (e18 _ _ hD17)
        refine ⟨_, rfl, _, rfl, .inl ⟨_, rfl, _, rfl, D, wants.map Wt.m, rfl, hD19, hm0, (by rw [List.length_map]; exact hl6), _, _, rfl, rfl, (by rw [← lcm_same (by decide) (fun m hm => (hm0 m hm).1)]; exact hpos), (by show 2 ≤ sizeLine; decide), fun dp nd => ?_⟩⟩
        rw [← lcm_same (by decide) (fun m hm => (hm0 m hm).1)]
        generalize hh20 : upd _ dp _ = H20; obtain ⟨e20, t20⟩ := upd_facts nd hh20; clear hh20
        refine ⟨tp, dp, _, _, rfl, e20 _ _ htp19, t20, fun H21 e21 => ⟨_, rfl, iteF ?_⟩⟩
        have e1621 := (e1619.trans e20).trans e21
        have hW21 := e1621 _ _ hW
        have hp21 : Paired (WtAt H21) ys wants := Paired.mapP hp fun _ _ q => q.mono e1621.n
        refine ⟨_, rfl, _, rfl, _, _, .lst (SqL.of hW21) (wts_dp hp21), .lst (SqL.of (e21 _ _ (e20 _ _ t19))) (wts_dp hp21), wts_shaped _, wts_shaped _, _, rfl, ?_⟩
        rw [wts_eqv]
        refine iteF ?_
        have htp21 := e21 _ _ (e20 _ _ htp19)
        refine ⟨_, rfl, tp, _, 1, _, rfl, rfl, SqT.of htp21, atI_nat (j := 1) rfl, _, _, rfl, rfl, ⟨by decide, by decide, by decide⟩, _, _, rfl, rfl, _, rfl, ?_⟩
        have b21 := b16.mono e1621
        have Q0 := Int.emod_nonneg R (show lcmF 1 (wants.map Wt.m) ≠ 0 by omega)
        by_cases c : R % lcmF 1 (wants.map Wt.m) ≤ 10 ^ (30 : Int).toNat
        · rw [decide_eq_true c]
          have Q1 : R % lcmF 1 (wants.map Wt.m) ≤ 10 ^ 30 := c
          refine iteT ⟨_, rfl, W, rfl, ⟨ys, SqL.of hW21⟩, for_it (walk_list (K := K) (a := W) (xs := ys)) (fun j σ H' => Ex H21 H' ∧ ∃ (c8 c9 c10 c11 c15 : Option V), σ = [some (.ref a), some (.ref bg), some (.int (0 + (i : Nat))), some (.ref q), some (.int n), some (.ref wq), some (.int R), some (.ref W), c8, c9, c10, c11, some (.ref D), some (.ref tp), some (.ref kp), c15]) ⟨Ex.refl _, _, _, _, _, _, rfl⟩ (fun j σ H' _ h => SqL.of (h.1 _ _ hW21)) (fun j y σ H22 H23 hj hP hy => ?_) (fun σ H22 hP => ?_)⟩
          · obtain ⟨e22, c8, c9, c10, c11, c15, rfl⟩ := hP
            obtain ⟨rfl, hy⟩ := hy
            obtain ⟨x, hx1, hx2⟩ := paired_get hp21 hy
            have xm := List.mem_of_getElem? hx1
            have xo := hx x xm
            obtain ⟨r, rfl, hr1⟩ := hx2.mono e22.n
            obtain ⟨N, Y⟩ := M.trk ws n x.place G xo.wt.p0 xo.wt.p1
            have ag := xo.again (R % lcmF 1 (wants.map Wt.m)) Q0 (Int.emod_emod_of_dvd R (lcmF_dvd (by decide) (fun m hm => (hm0 m hm).1) (List.mem_map_of_mem xm))) N Y
            refine ⟨r, _, rfl, SqT.of hr1, rfl, _, _, rfl, _, _, rfl, _, _, rfl, rfl, ?_⟩
            have htp22 := e22 _ _ htp21
            refine ⟨_, rfl, _, rfl, _, rfl, _, rfl, tp, _, 1, _, rfl, rfl, SqT.of htp22, atI_nat (j := 1) rfl, _, ws, n, x.place, _, N, rfl, w16.mono (e1621.trans e22).n, B, xo.wt.p0, xo.wt.p1, Q0, Q1, Y, fun v' H24 e24 hv => ?_⟩
            obtain ⟨g, rfl, hg⟩ := hv
            have fin : ∀ c9 c10 c11 : Option V, Ex H21 H24 ∧ ∃ (d8 d9 d10 d11 d15 : Option V), ([some (.ref a), some (.ref bg), some (.int (0 + (i : Nat))), some (.ref q), some (.int n), some (.ref wq), some (.int R), some (.ref W), c8, c9, c10, c11, some (.ref D), some (.ref tp), some (.ref kp), some (.ref g)] : L2.St) = [some (.ref a), some (.ref bg), some (.int (0 + (i : Nat))), some (.ref q), some (.int n), some (.ref wq), some (.int R), some (.ref W), d8, d9, d10, d11, some (.ref D), some (.ref tp), some (.ref kp), d15] := fun c9 c10 c11 => ⟨e22.trans e24, _, _, _, _, _, rfl⟩
            refine ⟨_, rfl, g, _, 0, _, rfl, rfl, SqT.of hg, atI_nat (j := 0) rfl, _, rfl, rfl, _, rfl, ?_⟩
            have g0 : (!decide (V.int (afterF (wayL ws n x.place N) x.place (R % lcmF 1 (wants.map Wt.m))).1 = V.int x.goal)) = false := by
              rw [dec_int, decide_eq_true ag.1] <;> rfl
            show (if (!decide (V.int (afterF (wayL ws n x.place N) x.place (R % lcmF 1 (wants.map Wt.m))).1 = V.int x.goal)) = true then _ else _)
            rw [g0]
            refine iteF ⟨_, rfl, rfl, _, rfl, ?_⟩
            cases hf : x.face with
            | none =>
              have g1 : (!decide (faceV none = V.non)) = false := by rw [decide_eq_true (show faceV none = V.non from rfl)] <;> rfl
              show (if (!decide (faceV none = V.non)) = true then _ else _)
              rw [g1]
              exact iteF (iteF (fin _ _ _))
            | some fb =>
              have g1 : (!decide (faceV (some fb) = V.non)) = true := by rw [decide_eq_false (show ¬ faceV (some fb) = V.non by intro z; cases z)] <;> rfl
              show (if (!decide (faceV (some fb) = V.non)) = true then _ else _)
              rw [g1]
              refine iteT ⟨_, rfl, g, _, 1, _, rfl, rfl, SqT.of hg, atI_nat (j := 1) rfl, _, rfl, rfl, _, rfl, ?_⟩
              have g2 : (!decide (V.bl (afterF (wayL ws n x.place N) x.place (R % lcmF 1 (wants.map Wt.m))).2 = faceV (some fb))) = false := by
                rw [ag.2 fb hf, decide_eq_true (show V.bl fb = faceV (some fb) from rfl)] <;> rfl
              show (if (!decide (V.bl (afterF (wayL ws n x.place N) x.place (R % lcmF 1 (wants.map Wt.m))).2 = faceV (some fb))) = true then _ else _)
              rw [g2]
              exact iteF (fin _ _ _)
          · obtain ⟨e22, c8, c9, c10, c11, c15, rfl⟩ := hP
            exact ⟨b21.mono e22, _, _, _, _, _, _, _, _, _, _, _, _, _, _, rfl⟩
        · rw [decide_eq_false c]
          exact iteF ⟨b21, _, _, _, _, _, _, _, _, _, _, _, _, _, _, rfl⟩
    · obtain ⟨b3, a2, a3, a4, a5, a6, a7, a8, a9, a10, a11, a12, a13, a14, a15, rfl⟩ := hP
      exact k H3
end
end Pp

set_option linter.all false
set_option maxRecDepth 10000
/-! what a move does, in range and one to one; the parts of a move -/
namespace Pp
theorem cut_cases {n p k : Int} (h0 : 0 ≤ p) (h1 : p < n) (h2 : -n ≤ k) (h3 : k ≤ n) : (p - k) % n = if p - k < 0 then p - k + n else if n ≤ p - k then p - k - n else p - k := by
  split
  · rw [← Int.add_emod_right, Int.emod_eq_of_lt (by omega) (by omega)]
  · split
    · rw [← Int.sub_emod_right, Int.emod_eq_of_lt (by omega) (by omega)]
    · rw [Int.emod_eq_of_lt (by omega) (by omega)]
theorem moved_range {m : Mv} {n p : Int} (ok : m.ok) (h0 : 0 ≤ p) (h1 : p < n) : 0 ≤ (movedF m n p).1 ∧ (movedF m n p).1 < n := by
  unfold movedF
  split
  · exact ⟨h0, h1⟩
  · rename_i hd
    cases m with
    | swap a b =>
      obtain ⟨a, d⟩ := a
      obtain ⟨b, e⟩ := b
      obtain ⟨⟨o1, o2⟩, o3, o4⟩ := ok
      simp only at o1 o2 o3 o4
      simp only [Mv.depth] at hd
      simp only [coreF, placedF]
      cases a <;> cases b <;> simp <;> (repeat' split) <;> (try simp only []) <;> omega
    | carry a b =>
      obtain ⟨a, d⟩ := a
      obtain ⟨b, e⟩ := b
      obtain ⟨⟨o1, o2⟩, o3, o4⟩ := ok
      simp only at o1 o2 o3 o4
      simp only [Mv.depth] at hd
      simp only [coreF, placedF, carriedF]
      cases a <;> cases b <;> simp <;> (repeat' split) <;> omega
    | cut k =>
      simp only [coreF]
      exact ⟨Int.emod_nonneg _ (by omega), Int.emod_lt_of_pos _ (by omega)⟩
    | turn e k =>
      obtain ⟨o1, o2⟩ := ok
      simp only [Mv.depth] at hd
      simp only [coreF, placedF]
      cases e <;> simp <;> (repeat' split) <;> (try simp only []) <;> omega
    | over =>
      simp only [coreF]
      omega
    | face a => exact ⟨h0, h1⟩
theorem moved_inj {m : Mv} {n p q : Int} (ok : m.ok) (h0 : 0 ≤ p) (h1 : p < n) (g0 : 0 ≤ q) (g1 : q < n) (h : (movedF m n p).1 = (movedF m n q).1) : p = q := by
  unfold movedF at h
  split at h
  · exact h
  · rename_i hd
    cases m with
    | swap a b =>
      obtain ⟨a, d⟩ := a
      obtain ⟨b, e⟩ := b
      obtain ⟨⟨o1, o2⟩, o3, o4⟩ := ok
      simp only at o1 o2 o3 o4
      simp only [Mv.depth] at hd
      simp only [coreF, placedF] at h
      cases a <;> cases b <;> simp at h <;> (repeat' split at h) <;> (try simp only [] at h) <;> omega
    | carry a b =>
      obtain ⟨a, d⟩ := a
      obtain ⟨b, e⟩ := b
      obtain ⟨⟨o1, o2⟩, o3, o4⟩ := ok
      simp only at o1 o2 o3 o4
      simp only [Mv.depth] at hd
      simp only [coreF, placedF, carriedF] at h
      cases a <;> cases b <;> simp at h <;> (repeat' split at h) <;> omega
    | cut k =>
      obtain ⟨o1, o2⟩ := ok
      simp only [Mv.depth] at hd
      simp only [coreF] at h
      have hk : -n ≤ k ∧ k ≤ n := by
        split at hd <;> omega
      rw [cut_cases h0 h1 hk.1 hk.2, cut_cases g0 g1 hk.1 hk.2] at h
      (repeat' split at h) <;> omega
    | turn e k =>
      obtain ⟨o1, o2⟩ := ok
      simp only [Mv.depth] at hd
      simp only [coreF, placedF] at h
      cases e <;> simp at h <;> (repeat' split at h) <;> (try simp only [] at h) <;> omega
    | over =>
      simp only [coreF] at h
      omega
    | face a => exact h
end Pp

set_option linter.all false
set_option maxRecDepth 10000
set_option maxHeartbeats 4000000
/-! the parts of a move say what the move does -/
namespace Pp
theorem moved_core {m : Mv} {n p : Int} (h : m.depth ≤ n) : movedF m n p = coreF m n p := by
  unfold movedF
  rw [if_neg (by omega)]
theorem res_end {m : Mv} {n k i : Int} : resF n (endEntF m k i) = (if (movedF m k i).1 < k / 2 then (movedF m k i).1 else n - k + (movedF m k i).1, (movedF m k i).2) := by
  unfold endEntF resF
  split
  · rfl
  · simp
    omega
theorem depth_two {d e : Int} (o1 : 0 ≤ d) (o2 : d ≤ 3) (o3 : 0 ≤ e) (o4 : e ≤ 3) : d + 1 ≤ (if e > d then e else d) + 1 ∧ e + 1 ≤ (if e > d then e else d) + 1 ∧ (if e > d then e else d) + 1 ≤ 4 := by split <;> omega
theorem dec_iff {a b : Prop} [Decidable a] [Decidable b] (h : a ↔ b) : decide a = decide b := by
  by_cases c : a
  · rw [decide_eq_true c, decide_eq_true (h.mp c)]
  · rw [decide_eq_false c, decide_eq_false (fun z => c (h.mpr z))]
theorem res_rule {t : Bool} {s p n : Int} : resF n (ruledF t s true p) = if t = true then (n - 1 - (p - s), true) else (p + s, false) := by
  cases t <;> rfl
/-- a place, its end's depth below d: what is told at size k holds at size n -/
theorem part_top {m : Mv} {n i : Int} (ok : m.ok) (hn : 20 ≤ n) (h0 : 0 ≤ i) (h1 : i < m.depth) : resF n (endEntF m (4 * m.depth + 3) i) = movedF m n i := by
  have hd := Mv.depth_le ok
  rw [res_end, moved_core (show m.depth ≤ 4 * m.depth + 3 by omega), moved_core (show m.depth ≤ n by omega)]
  cases m with
  | swap a b =>
    obtain ⟨a, d⟩ := a
    obtain ⟨b, e⟩ := b
    obtain ⟨⟨o1, o2⟩, o3, o4⟩ := ok
    simp only at o1 o2 o3 o4
    simp only [Mv.depth] at h1 hd ⊢
    obtain ⟨D1, D2, D3⟩ := depth_two o1 o2 o3 o4
    generalize (if e > d then e else d) + 1 = D at *
    have hk : (4 * D + 3) / 2 = 2 * D + 1 := by omega
    try rw [hk]
    simp only [coreF, placedF, carriedF]
    refine Prod.ext ?_ ?_
    · cases a <;> cases b <;> simp only [if_true, if_false, Bool.false_eq_true] <;> (repeat' split) <;> (first | omega | rfl | (exfalso; omega) | (simp at *; done) | (simp at *; omega))
    · cases a <;> cases b <;> simp only [if_true, if_false, Bool.false_eq_true] <;> (repeat' split) <;> (first | omega | rfl | (exfalso; omega) | (simp at *; done) | (simp at *; omega))
  | carry a b =>
    obtain ⟨a, d⟩ := a
    obtain ⟨b, e⟩ := b
    obtain ⟨⟨o1, o2⟩, o3, o4⟩ := ok
    simp only at o1 o2 o3 o4
    simp only [Mv.depth] at h1 hd ⊢
    obtain ⟨D1, D2, D3⟩ := depth_two o1 o2 o3 o4
    generalize (if e > d then e else d) + 1 = D at *
    have hk : (4 * D + 3) / 2 = 2 * D + 1 := by omega
    try rw [hk]
    simp only [coreF, placedF, carriedF]
    refine Prod.ext ?_ ?_
    · cases a <;> cases b <;> simp only [if_true, if_false, Bool.false_eq_true] <;> (repeat' split) <;> (first | omega | rfl | (exfalso; omega) | (simp at *; done) | (simp at *; omega))
    · cases a <;> cases b <;> simp only [if_true, if_false, Bool.false_eq_true] <;> (repeat' split) <;> (first | omega | rfl | (exfalso; omega) | (simp at *; done) | (simp at *; omega))
  | cut k =>
    obtain ⟨o1, o2⟩ := ok
    simp only [Mv.depth] at h1 hd ⊢
    simp only [coreF]
    by_cases hk0 : k < 0
    · simp only [hk0, if_true] at h1 hd ⊢
      have hk : (4 * (-k) + 3) / 2 = 2 * (-k) + 1 := by omega
      try rw [hk]
      rw [cut_cases (n := 4 * (-k) + 3) (by omega) (by omega) (by omega) (by omega), cut_cases (n := n) (by omega) (by omega) (by omega) (by omega)]
      refine Prod.ext ?_ ?_
      · simp only [if_true, if_false, Bool.false_eq_true] <;> (repeat' split) <;> (first | omega | rfl | (exfalso; omega) | (simp at *; done) | (simp at *; omega))
      · simp only [if_true, if_false, Bool.false_eq_true] <;> (repeat' split) <;> (first | omega | rfl | (exfalso; omega) | (simp at *; done) | (simp at *; omega))
    · simp only [hk0, if_false] at h1 hd ⊢
      have hk : (4 * k + 3) / 2 = 2 * k + 1 := by omega
      try rw [hk]
      rw [cut_cases (n := 4 * k + 3) (by omega) (by omega) (by omega) (by omega), cut_cases (n := n) (by omega) (by omega) (by omega) (by omega)]
      refine Prod.ext ?_ ?_
      · simp only [if_true, if_false, Bool.false_eq_true] <;> (repeat' split) <;> (first | omega | rfl | (exfalso; omega) | (simp at *; done) | (simp at *; omega))
      · simp only [if_true, if_false, Bool.false_eq_true] <;> (repeat' split) <;> (first | omega | rfl | (exfalso; omega) | (simp at *; done) | (simp at *; omega))
  | turn e k =>
    obtain ⟨o1, o2⟩ := ok
    simp only [Mv.depth] at h1 hd ⊢
    have hk : (4 * k + 3) / 2 = 2 * k + 1 := by omega
    try rw [hk]
    simp only [coreF, placedF]
    refine Prod.ext ?_ ?_
    · cases e <;> simp only [if_true, if_false, Bool.false_eq_true] <;> (repeat' split) <;> (first | omega | rfl | (exfalso; omega) | (simp at *; done) | (simp at *; omega))
    · cases e <;> simp only [if_true, if_false, Bool.false_eq_true] <;> (repeat' split) <;> (first | omega | rfl | (exfalso; omega) | (simp at *; done) | (simp at *; omega))
  | over =>
    simp only [Mv.depth] at h1
    omega
  | face a =>
    obtain ⟨a, d⟩ := a
    obtain ⟨o1, o2⟩ := ok
    simp only at o1 o2
    simp only [Mv.depth] at h1 hd ⊢
    have hk : (4 * (d + 1) + 3) / 2 = 2 * (d + 1) + 1 := by omega
    try rw [hk]
    simp only [coreF, placedF]
    refine Prod.ext ?_ ?_
    · cases a <;> simp only [if_true, if_false, Bool.false_eq_true] <;> (repeat' split) <;> (first | omega | rfl | (exfalso; omega) | (simp at *; done) | (simp at *; omega))
    · cases a <;> simp only [if_true, if_false, Bool.false_eq_true] <;> (first | (exact dec_iff (by omega)) | (rw [decide_eq_false (by omega), decide_eq_false (by omega)]; done) | (rw [decide_eq_false (by omega), decide_eq_false (by omega)]; rfl) | ((repeat' split) <;> (first | omega | rfl | (simp; omega) | (simp at *; omega))))
theorem part_bot {m : Mv} {n i : Int} (ok : m.ok) (hn : 20 ≤ n) (h0 : 0 ≤ i) (h1 : i < m.depth) : resF n (endEntF m (4 * m.depth + 3) (4 * m.depth + 3 - 1 - i)) = movedF m n (n - 1 - i) := by
  have hd := Mv.depth_le ok
  rw [res_end, moved_core (show m.depth ≤ 4 * m.depth + 3 by omega), moved_core (show m.depth ≤ n by omega)]
  cases m with
  | swap a b =>
    obtain ⟨a, d⟩ := a
    obtain ⟨b, e⟩ := b
    obtain ⟨⟨o1, o2⟩, o3, o4⟩ := ok
    simp only at o1 o2 o3 o4
    simp only [Mv.depth] at h1 hd ⊢
    obtain ⟨D1, D2, D3⟩ := depth_two o1 o2 o3 o4
    generalize (if e > d then e else d) + 1 = D at *
    have hk : (4 * D + 3) / 2 = 2 * D + 1 := by omega
    try rw [hk]
    simp only [coreF, placedF, carriedF]
    refine Prod.ext ?_ ?_
    · cases a <;> cases b <;> simp only [if_true, if_false, Bool.false_eq_true] <;> (repeat' split) <;> (first | omega | rfl | (exfalso; omega) | (simp at *; done) | (simp at *; omega))
    · cases a <;> cases b <;> simp only [if_true, if_false, Bool.false_eq_true] <;> (repeat' split) <;> (first | omega | rfl | (exfalso; omega) | (simp at *; done) | (simp at *; omega))
  | carry a b =>
    obtain ⟨a, d⟩ := a
    obtain ⟨b, e⟩ := b
    obtain ⟨⟨o1, o2⟩, o3, o4⟩ := ok
    simp only at o1 o2 o3 o4
    simp only [Mv.depth] at h1 hd ⊢
    obtain ⟨D1, D2, D3⟩ := depth_two o1 o2 o3 o4
    generalize (if e > d then e else d) + 1 = D at *
    have hk : (4 * D + 3) / 2 = 2 * D + 1 := by omega
    try rw [hk]
    simp only [coreF, placedF, carriedF]
    refine Prod.ext ?_ ?_
    · cases a <;> cases b <;> simp only [if_true, if_false, Bool.false_eq_true] <;> (repeat' split) <;> (first | omega | rfl | (exfalso; omega) | (simp at *; done) | (simp at *; omega))
    · cases a <;> cases b <;> simp only [if_true, if_false, Bool.false_eq_true] <;> (repeat' split) <;> (first | omega | rfl | (exfalso; omega) | (simp at *; done) | (simp at *; omega))
  | cut k =>
    obtain ⟨o1, o2⟩ := ok
    simp only [Mv.depth] at h1 hd ⊢
    simp only [coreF]
    by_cases hk0 : k < 0
    · simp only [hk0, if_true] at h1 hd ⊢
      have hk : (4 * (-k) + 3) / 2 = 2 * (-k) + 1 := by omega
      try rw [hk]
      rw [cut_cases (n := 4 * (-k) + 3) (by omega) (by omega) (by omega) (by omega), cut_cases (n := n) (by omega) (by omega) (by omega) (by omega)]
      refine Prod.ext ?_ ?_
      · simp only [if_true, if_false, Bool.false_eq_true] <;> (repeat' split) <;> (first | omega | rfl | (exfalso; omega) | (simp at *; done) | (simp at *; omega))
      · simp only [if_true, if_false, Bool.false_eq_true] <;> (repeat' split) <;> (first | omega | rfl | (exfalso; omega) | (simp at *; done) | (simp at *; omega))
    · simp only [hk0, if_false] at h1 hd ⊢
      have hk : (4 * k + 3) / 2 = 2 * k + 1 := by omega
      try rw [hk]
      rw [cut_cases (n := 4 * k + 3) (by omega) (by omega) (by omega) (by omega), cut_cases (n := n) (by omega) (by omega) (by omega) (by omega)]
      refine Prod.ext ?_ ?_
      · simp only [if_true, if_false, Bool.false_eq_true] <;> (repeat' split) <;> (first | omega | rfl | (exfalso; omega) | (simp at *; done) | (simp at *; omega))
      · simp only [if_true, if_false, Bool.false_eq_true] <;> (repeat' split) <;> (first | omega | rfl | (exfalso; omega) | (simp at *; done) | (simp at *; omega))
  | turn e k =>
    obtain ⟨o1, o2⟩ := ok
    simp only [Mv.depth] at h1 hd ⊢
    have hk : (4 * k + 3) / 2 = 2 * k + 1 := by omega
    try rw [hk]
    simp only [coreF, placedF]
    refine Prod.ext ?_ ?_
    · cases e <;> simp only [if_true, if_false, Bool.false_eq_true] <;> (repeat' split) <;> (first | omega | rfl | (exfalso; omega) | (simp at *; done) | (simp at *; omega))
    · cases e <;> simp only [if_true, if_false, Bool.false_eq_true] <;> (repeat' split) <;> (first | omega | rfl | (exfalso; omega) | (simp at *; done) | (simp at *; omega))
  | over =>
    simp only [Mv.depth] at h1
    omega
  | face a =>
    obtain ⟨a, d⟩ := a
    obtain ⟨o1, o2⟩ := ok
    simp only at o1 o2
    simp only [Mv.depth] at h1 hd ⊢
    have hk : (4 * (d + 1) + 3) / 2 = 2 * (d + 1) + 1 := by omega
    try rw [hk]
    simp only [coreF, placedF]
    refine Prod.ext ?_ ?_
    · cases a <;> simp only [if_true, if_false, Bool.false_eq_true] <;> (repeat' split) <;> (first | omega | rfl | (exfalso; omega) | (simp at *; done) | (simp at *; omega))
    · cases a <;> simp only [if_true, if_false, Bool.false_eq_true] <;> (first | (exact dec_iff (by omega)) | (rw [decide_eq_false (by omega), decide_eq_false (by omega)]; done) | (rw [decide_eq_false (by omega), decide_eq_false (by omega)]; rfl) | ((repeat' split) <;> (first | omega | rfl | (simp; omega) | (simp at *; omega))))
theorem part_mid {m : Mv} {n p : Int} (ok : m.ok) (hn : 20 ≤ n) (h0 : m.depth ≤ p) (h1 : p ≤ n - 1 - m.depth) : resF n (ruledF (movedF m (4 * m.depth + 3) (2 * m.depth + 1)).2 ((movedF m (4 * m.depth + 3) (2 * m.depth + 1)).1 - (2 * m.depth + 1)) true p) = movedF m n p := by
  have hd := Mv.depth_le ok
  rw [res_rule, moved_core (show m.depth ≤ 4 * m.depth + 3 by omega), moved_core (show m.depth ≤ n by omega)]
  cases m with
  | swap a b =>
    obtain ⟨a, d⟩ := a
    obtain ⟨b, e⟩ := b
    obtain ⟨⟨o1, o2⟩, o3, o4⟩ := ok
    simp only at o1 o2 o3 o4
    simp only [Mv.depth] at h0 h1 hd ⊢
    obtain ⟨D1, D2, D3⟩ := depth_two o1 o2 o3 o4
    generalize (if e > d then e else d) + 1 = D at *
    have hk : (4 * D + 3) / 2 = 2 * D + 1 := by omega
    try rw [hk]
    simp only [coreF, placedF, carriedF]
    refine Prod.ext ?_ ?_
    · cases a <;> cases b <;> simp only [if_true, if_false, Bool.false_eq_true] <;> (repeat' split) <;> (first | omega | rfl | (exfalso; omega) | (simp at *; done) | (simp at *; omega))
    · cases a <;> cases b <;> simp only [if_true, if_false, Bool.false_eq_true] <;> (repeat' split) <;> (first | omega | rfl | (exfalso; omega) | (simp at *; done) | (simp at *; omega))
  | carry a b =>
    obtain ⟨a, d⟩ := a
    obtain ⟨b, e⟩ := b
    obtain ⟨⟨o1, o2⟩, o3, o4⟩ := ok
    simp only at o1 o2 o3 o4
    simp only [Mv.depth] at h0 h1 hd ⊢
    obtain ⟨D1, D2, D3⟩ := depth_two o1 o2 o3 o4
    generalize (if e > d then e else d) + 1 = D at *
    have hk : (4 * D + 3) / 2 = 2 * D + 1 := by omega
    try rw [hk]
    simp only [coreF, placedF, carriedF]
    refine Prod.ext ?_ ?_
    · cases a <;> cases b <;> simp only [if_true, if_false, Bool.false_eq_true] <;> (repeat' split) <;> (first | omega | rfl | (exfalso; omega) | (simp at *; done) | (simp at *; omega))
    · cases a <;> cases b <;> simp only [if_true, if_false, Bool.false_eq_true] <;> (repeat' split) <;> (first | omega | rfl | (exfalso; omega) | (simp at *; done) | (simp at *; omega))
  | cut k =>
    obtain ⟨o1, o2⟩ := ok
    simp only [Mv.depth] at h0 h1 hd ⊢
    simp only [coreF]
    by_cases hk0 : k < 0
    · simp only [hk0, if_true] at h0 h1 hd ⊢
      have hk : (4 * (-k) + 3) / 2 = 2 * (-k) + 1 := by omega
      try rw [hk]
      rw [cut_cases (n := 4 * (-k) + 3) (by omega) (by omega) (by omega) (by omega), cut_cases (n := n) (by omega) (by omega) (by omega) (by omega)]
      refine Prod.ext ?_ ?_
      · simp only [if_true, if_false, Bool.false_eq_true] <;> (repeat' split) <;> (first | omega | rfl | (exfalso; omega) | (simp at *; done) | (simp at *; omega))
      · simp only [if_true, if_false, Bool.false_eq_true] <;> (repeat' split) <;> (first | omega | rfl | (exfalso; omega) | (simp at *; done) | (simp at *; omega))
    · simp only [hk0, if_false] at h0 h1 hd ⊢
      have hk : (4 * k + 3) / 2 = 2 * k + 1 := by omega
      try rw [hk]
      rw [cut_cases (n := 4 * k + 3) (by omega) (by omega) (by omega) (by omega), cut_cases (n := n) (by omega) (by omega) (by omega) (by omega)]
      refine Prod.ext ?_ ?_
      · simp only [if_true, if_false, Bool.false_eq_true] <;> (repeat' split) <;> (first | omega | rfl | (exfalso; omega) | (simp at *; done) | (simp at *; omega))
      · simp only [if_true, if_false, Bool.false_eq_true] <;> (repeat' split) <;> (first | omega | rfl | (exfalso; omega) | (simp at *; done) | (simp at *; omega))
  | turn e k =>
    obtain ⟨o1, o2⟩ := ok
    simp only [Mv.depth] at h0 h1 hd ⊢
    have hk : (4 * k + 3) / 2 = 2 * k + 1 := by omega
    try rw [hk]
    simp only [coreF, placedF]
    refine Prod.ext ?_ ?_
    · cases e <;> simp only [if_true, if_false, Bool.false_eq_true] <;> (repeat' split) <;> (first | omega | rfl | (exfalso; omega) | (simp at *; done) | (simp at *; omega))
    · cases e <;> simp only [if_true, if_false, Bool.false_eq_true] <;> (repeat' split) <;> (first | omega | rfl | (exfalso; omega) | (simp at *; done) | (simp at *; omega))
  | over =>
    simp only [Mv.depth] at h0 h1 hd ⊢
    simp only [coreF]
    refine Prod.ext ?_ ?_
    · simp only [if_true]
      omega
    · rfl
  | face a =>
    obtain ⟨a, d⟩ := a
    obtain ⟨o1, o2⟩ := ok
    simp only at o1 o2
    simp only [Mv.depth] at h0 h1 hd ⊢
    have hk : (4 * (d + 1) + 3) / 2 = 2 * (d + 1) + 1 := by omega
    try rw [hk]
    simp only [coreF, placedF]
    refine Prod.ext ?_ ?_
    · cases a <;> simp only [if_true, if_false, Bool.false_eq_true] <;> (repeat' split) <;> (first | omega | rfl | (exfalso; omega) | (simp at *; done) | (simp at *; omega))
    · cases a <;> simp only [if_true, if_false, Bool.false_eq_true] <;> (first | (exact dec_iff (by omega)) | (rw [decide_eq_false (by omega), decide_eq_false (by omega)]; done) | (rw [decide_eq_false (by omega), decide_eq_false (by omega)]; rfl) | ((repeat' split) <;> (first | omega | rfl | (simp; omega) | (simp at *; omega))))
end Pp

set_option linter.all false
set_option maxRecDepth 10000
set_option maxHeartbeats 4000000
/-! what a form says; trimming; products -/
namespace Pp
def loc (n : Int) (e : Bool) (d : Int) : Int := if e = true then d else n - 1 - d
theorem res_loc {n : Int} {x : Ent} : resF n x = (loc n x.e x.d, x.t) := rfl
theorem rule_both {t : Bool} {s p n : Int} : resF n (ruledF t s false (n - 1 - p)) = resF n (ruledF t s true p) := by
  cases t
  · show (n - 1 - (n - 1 - p - s), false) = (p + s, false)
    rw [show n - 1 - (n - 1 - p - s) = p + s by omega]
  · show (n - 1 - p + s, true) = (n - 1 - (p - s), true)
    rw [show n - 1 - p + s = n - 1 - (p - s) by omega]
theorem entry_lt {F : Fm} {e : Bool} {d : Int} (h : d < (F.table e).length) : F.entry e d = (F.table e).getD d.toNat ⟨true, 0, false⟩ := by
  unfold Fm.entry
  rw [if_pos h]
theorem entry_ge {F : Fm} {e : Bool} {d : Int} (h : (F.table e).length ≤ d) : F.entry e d = ruledF F.turned F.shift e d := by
  unfold Fm.entry
  rw [if_neg (by omega)]
theorem sent_loc {F : Fm} {n d : Int} {e : Bool} (h0 : 0 ≤ d) (h1 : d < n) (hd : d < (F.table e).length ∨ ((F.table (!e)).length : Int) ≤ n - 1 - d) (hn : (F.top.length : Int) + F.bottom.length ≤ n) : F.sent n (loc n e d) = resF n (F.entry e d) := by
  unfold Fm.sent
  cases e with
  | true =>
    have hd : d < F.top.length ∨ (F.bottom.length : Int) ≤ n - 1 - d := hd
    show (if d < F.top.length ∨ n - 1 - d ≥ F.bottom.length then _ else _) = _
    rw [if_pos (by omega)]
    rfl
  | false =>
    have hd : d < F.bottom.length ∨ (F.top.length : Int) ≤ n - 1 - d := hd
    show (if n - 1 - d < F.top.length ∨ n - 1 - (n - 1 - d) ≥ F.bottom.length then resF n (F.entry true (n - 1 - d)) else resF n (F.entry false (n - 1 - (n - 1 - d)))) = _
    rw [show n - 1 - (n - 1 - d) = d by omega]
    by_cases c : d < F.bottom.length
    · rw [if_neg (by omega)]
    · rw [if_pos (by omega), entry_ge (e := true) (show (F.top.length : Int) ≤ n - 1 - d by omega), entry_ge (e := false) (show (F.bottom.length : Int) ≤ d by omega), ← rule_both, show n - 1 - (n - 1 - d) = d by omega]
theorem trimN_spec (t : Bool) (s : Int) (e : Bool) (tab : List Ent) : ∀ k i : Nat, trimN t s e tab k ≤ i → i < k → tab[i]? = some (ruledF t s e i)
  | 0, i, _, h => absurd h (Nat.not_lt_zero i)
  | k + 1, i, h, hk => by
    unfold trimN at h
    split at h
    · rename_i c
      by_cases z : i = k
      · rw [z]
        exact c
      · exact trimN_spec t s e tab k i h (by omega)
    · omega
theorem trimN_le2 (t : Bool) (s : Int) (e : Bool) (tab : List Ent) : ∀ k : Nat, trimN t s e tab k ≤ k
  | 0 => Nat.le_refl 0
  | k + 1 => by
    unfold trimN
    split
    · exact Nat.le_succ_of_le (trimN_le2 t s e tab k)
    · exact Nat.le_refl _
theorem trim_table {F : Fm} {e : Bool} : F.trim.table e = trimF F.turned F.shift e (F.table e) := by cases e <;> rfl
theorem trim_len {F : Fm} {e : Bool} : (F.trim.table e).length = trimN F.turned F.shift e (F.table e) (F.table e).length := by
  rw [trim_table]
  unfold trimF
  rw [List.length_take, Nat.min_eq_left (trimN_le2 _ _ _ _ _)]
theorem trim_len_le {F : Fm} {e : Bool} : (F.trim.table e).length ≤ (F.table e).length := by
  rw [trim_len]
  exact trimN_le2 _ _ _ _ _
theorem trim_entry {F : Fm} {e : Bool} {d : Int} (h0 : 0 ≤ d) : F.trim.entry e d = F.entry e d := by
  obtain ⟨i, rfl⟩ := Int.eq_ofNat_of_zero_le h0
  by_cases c : ((i : Nat) : Int) < (F.trim.table e).length
  · have c2 : ((i : Nat) : Int) < (F.table e).length := by have := trim_len_le (F := F) (e := e); omega
    rw [entry_lt c, entry_lt c2, trim_table, show ((i : Nat) : Int).toNat = i from rfl]
    unfold trimF
    rw [List.getD_eq_getElem?_getD, List.getD_eq_getElem?_getD, List.getElem?_take, if_pos]
    rw [trim_len] at c
    omega
  · rw [entry_ge (show ((F.trim.table e).length : Int) ≤ i by omega)]
    by_cases c2 : ((i : Nat) : Int) < (F.table e).length
    · have h := trimN_spec F.turned F.shift e (F.table e) (F.table e).length i (by rw [trim_len] at c; omega) (by omega)
      rw [entry_lt c2, show ((i : Nat) : Int).toNat = i from rfl, List.getD_eq_getElem?_getD, h]
      rfl
    · rw [entry_ge (by omega)]
      rfl
theorem trim_sent {F : Fm} {n p : Int} (h0 : 0 ≤ p) (h1 : p < n) (hn : (F.top.length : Int) + F.bottom.length ≤ n) : F.trim.sent n p = F.sent n p := by
  have a := trim_len_le (F := F) (e := true)
  have b := trim_len_le (F := F) (e := false)
  have a : F.trim.top.length ≤ F.top.length := a
  have b : F.trim.bottom.length ≤ F.bottom.length := b
  have k := rule_both (t := F.turned) (s := F.shift) (p := p) (n := n)
  unfold Fm.sent
  rw [trim_entry h0, trim_entry (show 0 ≤ n - 1 - p by omega)]
  by_cases c1 : p < F.top.length
  · rw [if_pos (Or.inl c1)]
    rw [if_pos]
    omega
  · by_cases c2 : n - 1 - p ≥ F.bottom.length
    · rw [if_pos (Or.inr c2)]
      rw [if_pos]
      omega
    · rw [if_neg (show ¬ (p < F.top.length ∨ n - 1 - p ≥ F.bottom.length) by omega)]
      split
      · rename_i c3
        have c4 : (F.trim.bottom.length : Int) ≤ n - 1 - p := by omega
        rw [entry_ge (e := true) (show (F.top.length : Int) ≤ p by omega), ← k, ← trim_entry (F := F) (e := false) (show 0 ≤ n - 1 - p by omega), entry_ge (e := false) (show (F.trim.bottom.length : Int) ≤ n - 1 - p from c4)]
        rfl
      · rfl
/-- the product before it is trimmed -/
def Fm.mulU (F G : Fm) : Fm := ⟨F.turned != G.turned, G.shift + (if G.turned = true then -F.shift else F.shift), F.follows G true (F.reached G).1, F.follows G false (F.reached G).2⟩
theorem mulR_eq (F G : Fm) : F.mulR G = (F.mulU G).trim := rfl
def comp (f g : Int × Bool) : Int × Bool := (g.1, f.2 != g.2)
end Pp

set_option linter.all false
set_option maxRecDepth 10000
set_option maxHeartbeats 4000000
/-! forms that say what a bijection does -/
namespace Pp
structure Good (F : Fm) (g : Int → Int → Int × Bool) (k : Nat) : Prop where
  la : F.top.length ≤ 4 * k
  lb : F.bottom.length ≤ 4 * k
  s0 : -(4 * (k : Int)) ≤ F.shift
  s1 : F.shift ≤ 4 * k
  rep : ∀ n p, 20 + 5 * (k : Int) ≤ n → 0 ≤ p → p < n → F.sent n p = g n p
  rng : ∀ n p, 20 ≤ n → 0 ≤ p → p < n → 0 ≤ (g n p).1 ∧ (g n p).1 < n
  inj : ∀ n p q, 20 ≤ n → 0 ≤ p → p < n → 0 ≤ q → q < n → (g n p).1 = (g n q).1 → p = q
section
variable {F G : Fm} {f g : Int → Int → Int × Bool} {k : Nat}
theorem Good.tbl (h : Good F f k) (e : Bool) : (F.table e).length ≤ 4 * k := by
  cases e
  · exact h.lb
  · exact h.la
theorem Good.trim (h : Good F f k) (hk : k ≤ 6) : Good F.trim f k := by
  have a := trim_len_le (F := F) (e := true)
  have b := trim_len_le (F := F) (e := false)
  have a : F.trim.top.length ≤ F.top.length := a
  have b : F.trim.bottom.length ≤ F.bottom.length := b
  have la := h.la
  have lb := h.lb
  refine ⟨by omega, by omega, h.s0, h.s1, fun n p hn h0 h1 => ?_, h.rng, h.inj⟩
  rw [trim_sent h0 h1 (by omega)]
  exact h.rep n p hn h0 h1
/-- an entry's depth: within the pile, and small -/
theorem Good.entry (h : Good F f k) (hk : k ≤ 4) {n d : Int} {e : Bool} (hn : 20 + 5 * (k : Int) ≤ n) (h0 : 0 ≤ d) (h1 : d < n) (hd : d < (F.table e).length ∨ 4 * (k : Int) ≤ n - 1 - d) :
    f n (loc n e d) = resF n (F.entry e d) ∧ 0 ≤ (F.entry e d).d ∧ (F.entry e d).d < n := by
  have la := h.la
  have lb := h.lb
  have t := h.tbl (!e)
  have l0 : 0 ≤ loc n e d ∧ loc n e d < n := by
    unfold loc
    split <;> omega
  have e1 := sent_loc (F := F) (n := n) (d := d) (e := e) h0 h1 (by omega) (by omega)
  rw [h.rep n _ hn l0.1 l0.2] at e1
  have r := h.rng n _ (by omega) l0.1 l0.2
  rw [e1] at r
  refine ⟨e1, ?_⟩
  unfold resF at r
  simp only at r
  split at r <;> omega
theorem Good.small (h : Good F f k) (hk : k ≤ 4) {d : Int} {e : Bool} (h0 : 0 ≤ d) (hd : d < (F.table e).length) : (F.entry e d).d < 20 + 5 * (k : Int) := by
  have t := h.tbl e
  exact (h.entry hk (n := 20 + 5 * (k : Int)) (Int.le_refl _) h0 (by omega) (.inl hd)).2.2
theorem Good.deep (h : Good F f k) (hk : k ≤ 4) {d : Int} {e : Bool} (h0 : 0 ≤ d) : 0 ≤ (F.entry e d).d := by
  exact (h.entry hk (n := d + 100) (e := e) (d := d + 0) (by omega) (by omega) (by omega) (.inr (by omega))).2.1 |> fun z => by
    rw [Int.add_zero] at z
    exact z
theorem reached_le (hF : Good F f k) (hG : Good G g 1) : (F.reached G).1 ≤ 4 * k + 4 ∧ (F.reached G).2 ≤ 4 * k + 4 ∧ (F.top.length : Int) ≤ (F.reached G).1 ∧ (F.bottom.length : Int) ≤ (F.reached G).2 ∧
    (F.turned = false → (G.top.length : Int) - F.shift ≤ (F.reached G).1 ∧ (G.bottom.length : Int) + F.shift ≤ (F.reached G).2) ∧ (F.turned = true → (G.bottom.length : Int) + F.shift ≤ (F.reached G).1 ∧ (G.top.length : Int) - F.shift ≤ (F.reached G).2) := by
  have a1 := hF.la
  have a2 := hF.lb
  have a3 := hF.s0
  have a4 := hF.s1
  have b1 := hG.la
  have b2 := hG.lb
  unfold Fm.reached mx
  cases ht : F.turned
  · simp only [Bool.false_eq_true, if_false]
    refine ⟨?_, ?_, ?_, ?_, fun _ => ⟨?_, ?_⟩, fun z => (by cases z)⟩ <;> split <;> omega
  · simp only [if_true]
    refine ⟨?_, ?_, ?_, ?_, fun z => (by cases z), fun _ => ⟨?_, ?_⟩⟩ <;> split <;> omega
theorem follows_len (F G : Fm) (e : Bool) (n : Int) : (F.follows G e n).length = n.toNat := by
  unfold Fm.follows
  rw [List.length_map, List.length_range]
theorem mulU_entry (F G : Fm) (e : Bool) {d : Int} (h0 : 0 ≤ d) (hd : d < (if e = true then (F.reached G).1 else (F.reached G).2)) : (F.mulU G).entry e d = F.followed G e d := by
  obtain ⟨i, rfl⟩ := Int.eq_ofNat_of_zero_le h0
  cases e with
  | true =>
    have hd : ((i : Nat) : Int) < (F.reached G).1 := hd
    have hl : ((F.mulU G).table true).length = (F.reached G).1.toNat := follows_len F G true _
    rw [entry_lt (by rw [hl]; omega)]
    show ((F.follows G true (F.reached G).1).getD i ⟨true, 0, false⟩) = _
    unfold Fm.follows
    rw [List.getD_eq_getElem?_getD, List.getElem?_map, List.getElem?_range (by omega)]
    rfl
  | false =>
    have hd : ((i : Nat) : Int) < (F.reached G).2 := hd
    have hl : ((F.mulU G).table false).length = (F.reached G).2.toNat := follows_len F G false _
    rw [entry_lt (by rw [hl]; omega)]
    show ((F.follows G false (F.reached G).2).getD i ⟨true, 0, false⟩) = _
    unfold Fm.follows
    rw [List.getD_eq_getElem?_getD, List.getElem?_map, List.getElem?_range (by omega)]
    rfl
/-- an entry followed -/
theorem followed_says (hF : Good F f k) (hG : Good G g 1) (hk : k ≤ 3) {n d : Int} {e : Bool} (hn : 20 + 5 * ((k + 1 : Nat) : Int) ≤ n) (h0 : 0 ≤ d) (hd : d < 4 * k + 4) :
    resF n (F.followed G e d) = comp (f n (loc n e d)) (g n (f n (loc n e d)).1) := by
  have a3 := hF.s0
  have a4 := hF.s1
  obtain ⟨x1, x2, x3⟩ := hF.entry (by omega) (n := n) (d := d) (e := e) (by omega) h0 (by omega) (.inr (by omega))
  have hx : (F.entry e d).d < (G.table (F.entry e d).e).length ∨ 4 * ((1 : Nat) : Int) ≤ n - 1 - (F.entry e d).d := by
    by_cases c : d < (F.table e).length
    · have := hF.small (by omega) h0 c
      omega
    · have e1 := entry_ge (F := F) (e := e) (d := d) (by omega)
      have e2 : (F.entry e d).d ≤ d + 4 * k := by
        rw [e1]
        unfold ruledF
        cases F.turned <;> cases e <;> simp <;> omega
      omega
  obtain ⟨y1, y2, y3⟩ := hG.entry (by omega) (n := n) (d := (F.entry e d).d) (e := (F.entry e d).e) (by omega) x2 x3 hx
  rw [x1]
  show _ = comp (resF n (F.entry e d)) (g n (loc n (F.entry e d).e (F.entry e d).d))
  rw [y1]
  rfl
theorem mul_good (hF : Good F f k) (hG : Good G g 1) (hk : k ≤ 3) : Good (F.mulU G) (fun n p => comp (f n p) (g n (f n p).1)) (k + 1) := by
  obtain ⟨r1, r2, r3, r4, r5, r6⟩ := reached_le hF hG
  have a1 := hF.la
  have a2 := hF.lb
  have a3 := hF.s0
  have a4 := hF.s1
  have b1 := hG.la
  have b2 := hG.lb
  have b3 := hG.s0
  have b4 := hG.s1
  have lt : (F.mulU G).top.length = (F.reached G).1.toNat := follows_len F G true _
  have lb : (F.mulU G).bottom.length = (F.reached G).2.toNat := follows_len F G false _
  have hs : (F.mulU G).shift = G.shift + (if G.turned = true then -F.shift else F.shift) := rfl
  refine ⟨by omega, by omega, ?_, ?_, fun n p hn h0 h1 => ?_, fun n p hn h0 h1 => ?_, fun n p q hn h0 h1 g0 g1 h => ?_⟩
  · rw [hs]
    split <;> omega
  · rw [hs]
    split <;> omega
  · unfold Fm.sent
    by_cases c1 : p < (F.reached G).1
    · rw [if_pos (Or.inl (by omega)), mulU_entry F G true h0 c1, followed_says hF hG hk hn h0 (by omega)]
      rfl
    · by_cases c2 : n - 1 - p < (F.reached G).2
      · rw [if_neg (by omega), mulU_entry F G false (by omega) c2, followed_says hF hG hk hn (by omega) (by omega)]
        have : loc n false (n - 1 - p) = p := by
          unfold loc
          rw [if_neg Bool.false_ne_true]
          omega
        rw [this]
      · rw [if_pos (Or.inr (by omega)), entry_ge (e := true) (show (((F.mulU G).table true).length : Int) ≤ p from by show ((F.mulU G).top.length : Int) ≤ p; omega)]
        -- the rule of the product
        have e1 : f n p = resF n (ruledF F.turned F.shift true p) := by
          rw [← hF.rep n p (by omega) h0 h1]
          unfold Fm.sent
          rw [if_pos (Or.inr (by omega)), entry_ge (e := true) (show ((F.table true).length : Int) ≤ p from by show (F.top.length : Int) ≤ p; omega)]
        have rr := hF.rng n p (by omega) h0 h1
        have e2 : g n (f n p).1 = resF n (ruledF G.turned G.shift true (f n p).1) := by
          rw [← hG.rep n _ (by omega) rr.1 rr.2]
          unfold Fm.sent
          cases ht : F.turned with
          | false =>
            have q := r5 ht
            have e3 : (f n p).1 = p + F.shift := by
              rw [e1, ht]
              rfl
            rw [if_pos (Or.inr (by omega)), entry_ge (e := true) (show ((G.table true).length : Int) ≤ (f n p).1 from by show (G.top.length : Int) ≤ (f n p).1; omega)]
          | true =>
            have q := r6 ht
            have e3 : (f n p).1 = n - 1 - (p - F.shift) := by
              rw [e1, ht]
              rfl
            rw [if_pos (Or.inr (by omega)), entry_ge (e := true) (show ((G.table true).length : Int) ≤ (f n p).1 from by show (G.top.length : Int) ≤ (f n p).1; omega)]
        rw [e2, e1]
        show resF n (ruledF (F.turned != G.turned) (G.shift + (if G.turned = true then -F.shift else F.shift)) true p) = _
        cases ht : F.turned <;> cases hu : G.turned
        · show (p + (G.shift + F.shift), false) = (p + F.shift + G.shift, false)
          rw [show p + (G.shift + F.shift) = p + F.shift + G.shift by omega]
        · show (n - 1 - (p - (G.shift + -F.shift)), true) = (n - 1 - (p + F.shift - G.shift), true)
          rw [show n - 1 - (p - (G.shift + -F.shift)) = n - 1 - (p + F.shift - G.shift) by omega]
        · show (n - 1 - (p - (G.shift + F.shift)), true) = (n - 1 - (p - F.shift) + G.shift, true)
          rw [show n - 1 - (p - (G.shift + F.shift)) = n - 1 - (p - F.shift) + G.shift by omega]
        · show (p + (G.shift + -F.shift), false) = (n - 1 - (n - 1 - (p - F.shift) - G.shift), false)
          rw [show p + (G.shift + -F.shift) = n - 1 - (n - 1 - (p - F.shift) - G.shift) by omega]
  · have r := hF.rng n p hn h0 h1
    exact hG.rng n _ hn r.1 r.2
  · have r := hF.rng n p hn h0 h1
    have r' := hF.rng n q hn g0 g1
    exact hF.inj n p q hn h0 h1 g0 g1 (hG.inj n _ _ hn r.1 r.2 r'.1 r'.2 h)
end
end Pp

set_option linter.all false
set_option maxRecDepth 10000
set_option maxHeartbeats 4000000
/-! the parts of such a form are parts -/
namespace Pp
theorem perm_of_sub {α : Type} [DecidableEq α] : ∀ (l₁ l₂ : List α), l₁.Nodup → (∀ x ∈ l₁, x ∈ l₂) → l₂.length ≤ l₁.length → l₁.Perm l₂
  | [], l₂, _, _, h => by
    have : l₂ = [] := List.eq_nil_of_length_eq_zero (Nat.le_zero.mp h)
    rw [this]
  | a :: r, l₂, nd, sub, h => by
    have ha := sub a (List.mem_cons_self)
    obtain ⟨n1, n2⟩ := List.nodup_cons.mp nd
    refine (List.Perm.cons a (perm_of_sub r (l₂.erase a) n2 (fun x hx => ?_) ?_)).trans (List.perm_cons_erase ha).symm
    · exact (List.mem_erase_of_ne (fun (z : x = a) => n1 (by rw [← z]; exact hx))).mpr (sub x (List.mem_cons_of_mem _ hx))
    · rw [List.length_erase_of_mem ha]
      rw [List.length_cons] at h
      omega
/-- what is one to one into a list is no longer than it -/
theorem nodup_len {α : Type} [DecidableEq α] : ∀ (l₁ l₂ : List α), l₁.Nodup → (∀ x ∈ l₁, x ∈ l₂) → l₁.length ≤ l₂.length
  | [], l₂, _, _ => Nat.zero_le _
  | a :: r, l₂, nd, sub => by
    have ha := sub a (List.mem_cons_self)
    obtain ⟨n1, n2⟩ := List.nodup_cons.mp nd
    have := nodup_len r (l₂.erase a) n2 fun x hx => (List.mem_erase_of_ne (fun (z : x = a) => n1 (by rw [← z]; exact hx))).mpr (sub x (List.mem_cons_of_mem _ hx))
    rw [List.length_erase_of_mem ha] at this
    have : 0 < l₂.length := List.length_pos_of_mem ha
    rw [List.length_cons]
    omega
theorem mem_ends {e e' : Bool} {d m : Int} : (e, d) ∈ endsL e' m ↔ e = e' ∧ 0 ≤ d ∧ d < m := by
  unfold endsL
  rw [List.mem_map]
  constructor
  · rintro ⟨i, hi, h⟩
    rw [List.mem_range] at hi
    injection h with h1 h2
    exact ⟨h1.symm, by omega, by omega⟩
  · rintro ⟨h1, h2, h3⟩
    exact ⟨d.toNat, List.mem_range.mpr (by omega), by rw [h1, Int.toNat_of_nonneg h2]⟩
section
variable {F : Fm} {f : Int → Int → Int × Bool} {k : Nat}
theorem mid_rule (h : Good F f k) {n p : Int} (hn : 20 + 5 * (k : Int) ≤ n) (h0 : (F.top.length : Int) ≤ p) (h1 : p < n - F.bottom.length) : f n p = resF n (ruledF F.turned F.shift true p) := by
  rw [← h.rep n p hn (by omega) (by omega)]
  unfold Fm.sent
  rw [if_pos (Or.inr (by omega)), entry_ge (e := true) (show ((F.table true).length : Int) ≤ p from h0)]
/-- the i-th part: its end and depth -/
def iE (F : Fm) (i : Nat) : Bool := decide (i < F.top.length)
def iD (F : Fm) (i : Nat) : Int := if i < F.top.length then (i : Int) else (i : Int) - F.top.length
theorem part_at {F : Fm} {i : Nat} (h : i < (F.top ++ F.bottom).length) : (F.top ++ F.bottom)[i] = F.entry (iE F i) (iD F i) ∧ 0 ≤ iD F i ∧ iD F i < (F.table (iE F i)).length := by
  rw [List.length_append] at h
  by_cases c : i < F.top.length
  · have e1 : iE F i = true := decide_eq_true c
    have e2 : iD F i = i := if_pos c
    rw [e1, e2, List.getElem_append_left c]
    have l : ((i : Nat) : Int) < (F.table true).length := by show ((i : Nat) : Int) < F.top.length; omega
    rw [entry_lt l]
    refine ⟨?_, by omega, l⟩
    show _ = F.top.getD i ⟨true, 0, false⟩
    rw [List.getD_eq_getElem?_getD, List.getElem?_eq_getElem c] <;> rfl
  · have e1 : iE F i = false := decide_eq_false c
    have e2 : iD F i = ((i - F.top.length : Nat) : Int) := by
      unfold iD
      rw [if_neg c]
      omega
    have c2 : i - F.top.length < F.bottom.length := by omega
    rw [e1, e2, List.getElem_append_right (by omega)]
    have l : ((i - F.top.length : Nat) : Int) < (F.table false).length := by show ((i - F.top.length : Nat) : Int) < F.bottom.length; omega
    rw [entry_lt l]
    refine ⟨?_, by omega, l⟩
    show _ = F.bottom.getD (i - F.top.length) ⟨true, 0, false⟩
    rw [List.getD_eq_getElem?_getD, List.getElem?_eq_getElem c2] <;> rfl
theorem good_parts (h : Good F f k) (hk : k ≤ 4) : F.Parts := by
  have la := h.la
  have lb := h.lb
  have s0 := h.s0
  have s1 := h.s1
  have q1 := mid_rule h (n := 200) (p := F.top.length) (by omega) (by omega) (by omega)
  have q2 := mid_rule h (n := 200) (p := 199 - F.bottom.length) (by omega) (by omega) (by omega)
  have r1 := h.rng 200 F.top.length (by omega) (by omega) (by omega)
  have r2 := h.rng 200 (199 - F.bottom.length) (by omega) (by omega) (by omega)
  rw [q1] at r1
  rw [q2] at r2
  have hc : 0 ≤ F.counts.1 ∧ 0 ≤ F.counts.2 ∧ F.counts.1 + F.counts.2 = F.top.length + F.bottom.length ∧ F.counts.1 ≤ 40 ∧ F.counts.2 ≤ 40 := by
    unfold Fm.counts countsF
    unfold resF ruledF at r1 r2
    cases ht : F.turned <;> simp only [ht, if_true, if_false, Bool.false_eq_true] at r1 r2 ⊢ <;> omega
  obtain ⟨c1, c2, c3, c4, c5⟩ := hc
  -- each place between is hit by a place between
  have hit : ∀ q : Int, F.counts.1 ≤ q → q < 200 - F.counts.2 → ∃ p, (F.top.length : Int) ≤ p ∧ p < 200 - F.bottom.length ∧ (f 200 p).1 = q := by
    intro q hq1 hq2
    unfold Fm.counts countsF at hq1 hq2
    cases ht : F.turned with
    | false =>
      rw [ht] at hq1 hq2
      simp only [if_false, Bool.false_eq_true] at hq1 hq2
      refine ⟨q - F.shift, by omega, by omega, ?_⟩
      rw [mid_rule h (by omega) (by omega) (by omega), ht]
      show q - F.shift + F.shift = q
      omega
    | true =>
      rw [ht] at hq1 hq2
      simp only [if_true] at hq1 hq2
      refine ⟨199 + F.shift - q, by omega, by omega, ?_⟩
      rw [mid_rule h (by omega) (by omega) (by omega), ht]
      show 200 - 1 - (199 + F.shift - q - F.shift) = q
      omega
  have inner : ∀ (e : Bool) (d : Int), 0 ≤ d → d < (F.table e).length → 0 ≤ loc 200 e d ∧ loc 200 e d < 200 ∧ (loc 200 e d < F.top.length ∨ 200 - F.bottom.length ≤ loc 200 e d) := by
    intro e d h0 h1
    unfold loc
    cases e with
    | true =>
      have h1 : d < F.top.length := h1
      simp only [if_true]
      omega
    | false =>
      have h1 : d < F.bottom.length := h1
      simp only [if_false, Bool.false_eq_true]
      omega
  have mem : ∀ (e : Bool) (d : Int), 0 ≤ d → d < (F.table e).length → ((F.entry e d).e, (F.entry e d).d) ∈ endsL true F.counts.1 ++ endsL false F.counts.2 := by
    intro e d h0 h1
    have t := h.tbl e
    obtain ⟨x1, x2, x3⟩ := h.entry hk (n := 200) (d := d) (e := e) (by omega) h0 (by omega) (.inl h1)
    have x4 := h.small hk h0 h1
    obtain ⟨i1, i2, i3⟩ := inner e d h0 h1
    rw [List.mem_append, mem_ends, mem_ends]
    have no : ∀ q, (f 200 (loc 200 e d)).1 = q → ¬ (F.counts.1 ≤ q ∧ q < 200 - F.counts.2) := by
      intro q hq z
      obtain ⟨p, p1, p2, p3⟩ := hit q z.1 z.2
      have := h.inj 200 _ p (by omega) i1 i2 (by omega) (by omega) (hq.trans p3.symm)
      omega
    cases hx : (F.entry e d).e with
    | true =>
      refine .inl ⟨rfl, x2, ?_⟩
      have := no (F.entry e d).d (by rw [x1]; unfold resF; rw [hx]; rfl)
      omega
    | false =>
      refine .inr ⟨rfl, x2, ?_⟩
      have := no (199 - (F.entry e d).d) (by rw [x1]; unfold resF; rw [hx]; show 200 - 1 - _ = _; omega)
      omega
  refine ⟨c1, c2, perm_of_sub _ _ ?_ ?_ ?_⟩
  · rw [List.Nodup, List.pairwise_iff_getElem]
    intro i j hi hj hij z
    rw [List.getElem_map, List.getElem_map] at z
    rw [List.length_map] at hi hj
    obtain ⟨a1, a2, a3⟩ := part_at hi
    obtain ⟨b1, b2, b3⟩ := part_at hj
    rw [a1, b1] at z
    injection z with z1 z2
    obtain ⟨x1, _⟩ := h.entry hk (n := 200) (by omega) a2 (by have := h.tbl (iE F i); omega) (.inl a3)
    obtain ⟨y1, _⟩ := h.entry hk (n := 200) (by omega) b2 (by have := h.tbl (iE F j); omega) (.inl b3)
    have ii := inner _ _ a2 a3
    have jj := inner _ _ b2 b3
    have e := h.inj 200 _ _ (by omega) ii.1 ii.2.1 jj.1 jj.2.1 (by
      rw [x1, y1]
      unfold resF
      rw [z1, z2])
    unfold loc iE iD at e
    rw [List.length_append] at hi hj
    by_cases c : i < F.top.length
    · by_cases c' : j < F.top.length
      · rw [decide_eq_true c, decide_eq_true c'] at e
        simp only [c, c', if_true] at e
        omega
      · rw [decide_eq_true c, decide_eq_false c'] at e
        simp only [c, c', if_true, if_false, Bool.false_eq_true] at e
        omega
    · by_cases c' : j < F.top.length
      · omega
      · rw [decide_eq_false c, decide_eq_false c'] at e
        simp only [c, c', if_false, Bool.false_eq_true] at e
        omega
  · intro x hx
    obtain ⟨y, hy, rfl⟩ := List.mem_map.mp hx
    obtain ⟨i, hi, rfl⟩ := List.mem_iff_getElem.mp hy
    obtain ⟨a1, a2, a3⟩ := part_at hi
    rw [a1]
    exact mem _ _ a2 a3
  · rw [List.length_append, List.length_map, List.length_append]
    unfold endsL
    rw [List.length_map, List.length_map, List.length_range, List.length_range]
    omega
end
end Pp

set_option linter.all false
set_option maxRecDepth 10000
set_option maxHeartbeats 4000000
/-! words of few moves: their forms -/
namespace Pp
theorem part_good {m : Mv} (ok : m.ok) : Good (partsF m) (movedF m) 1 := by
  have hd := Mv.depth_le ok
  have lt : (partsF m).top.length = m.depth.toNat := by
    show ((List.range m.depth.toNat).map _).length = _
    rw [List.length_map, List.length_range]
  have lb : (partsF m).bottom.length = m.depth.toNat := by
    show ((List.range m.depth.toNat).map _).length = _
    rw [List.length_map, List.length_range]
  have m1 := part_mid (n := 20) (p := m.depth) ok (by omega) (by omega) (by omega)
  have m2 := part_mid (n := 20) (p := 19 - m.depth) ok (by omega) (by omega) (by omega)
  have r1 := moved_range (n := 20) (p := m.depth) ok (by omega) (by omega)
  have r2 := moved_range (n := 20) (p := 19 - m.depth) ok (by omega) (by omega)
  rw [← m1, res_rule] at r1
  rw [← m2, res_rule] at r2
  have hs : -(4 * ((1 : Nat) : Int)) ≤ (partsF m).shift ∧ (partsF m).shift ≤ 4 * ((1 : Nat) : Int) := by
    show -(4 * ((1 : Nat) : Int)) ≤ (movedF m (4 * m.depth + 3) (2 * m.depth + 1)).1 - (2 * m.depth + 1) ∧ (movedF m (4 * m.depth + 3) (2 * m.depth + 1)).1 - (2 * m.depth + 1) ≤ 4 * ((1 : Nat) : Int)
    split at r1
    · rename_i ct
      rw [if_pos ct] at r2
      simp only at r1 r2
      omega
    · rename_i ct
      rw [if_neg ct] at r2
      simp only at r1 r2
      omega
  refine ⟨by omega, by omega, hs.1, hs.2, fun n p hn h0 h1 => ?_, fun n p _ h0 h1 => moved_range ok h0 h1, fun n p q _ h0 h1 g0 g1 h => moved_inj ok h0 h1 g0 g1 h⟩
  have hn : 25 ≤ n := by omega
  unfold Fm.sent
  by_cases c1 : p < m.depth
  · rw [if_pos (Or.inl (by omega)), entry_lt (e := true) (show p < ((partsF m).table true).length from by show p < ((partsF m).top.length : Int); omega)]
    show resF n (((List.range m.depth.toNat).map fun (i : Nat) => endEntF m (4 * m.depth + 3) (i : Int)).getD p.toNat ⟨true, 0, false⟩) = _
    rw [List.getD_eq_getElem?_getD, List.getElem?_map, List.getElem?_range (by omega)]
    show resF n (endEntF m (4 * m.depth + 3) ((p.toNat : Nat) : Int)) = _
    rw [Int.toNat_of_nonneg h0]
    exact part_top ok (by omega) h0 c1
  · by_cases c2 : n - 1 - p < m.depth
    · rw [if_neg (by omega), entry_lt (e := false) (show n - 1 - p < ((partsF m).table false).length from by show n - 1 - p < ((partsF m).bottom.length : Int); omega)]
      show resF n (((List.range m.depth.toNat).map fun (i : Nat) => endEntF m (4 * m.depth + 3) (4 * m.depth + 3 - 1 - (i : Int))).getD (n - 1 - p).toNat ⟨true, 0, false⟩) = _
      rw [List.getD_eq_getElem?_getD, List.getElem?_map, List.getElem?_range (by omega)]
      show resF n (endEntF m (4 * m.depth + 3) (4 * m.depth + 3 - 1 - (((n - 1 - p).toNat : Nat) : Int))) = _
      rw [Int.toNat_of_nonneg (by omega), part_bot ok (by omega) (by omega) c2, show n - 1 - (n - 1 - p) = p by omega]
    · rw [if_pos (Or.inr (by omega)), entry_ge (e := true) (show (((partsF m).table true).length : Int) ≤ p from by show ((partsF m).top.length : Int) ≤ p; omega)]
      exact part_mid ok (by omega) (by omega) (by omega)
theorem still_good : Good stillF (sentW []) 0 := by
  refine ⟨by decide, by decide, by decide, by decide, fun n p hn h0 h1 => ?_, fun n p _ h0 h1 => ⟨h0, h1⟩, fun n p q _ h0 h1 g0 g1 h => h⟩
  unfold Fm.sent
  rw [if_pos (Or.inr (show n - 1 - p ≥ ((stillF.bottom.length : Nat) : Int) from by show n - 1 - p ≥ 0; omega)), entry_ge (e := true) (show ((stillF.table true).length : Int) ≤ p from h0)]
  show (p + 0, false) = (p, false)
  rw [Int.add_zero]
theorem sentL_append (n : Int) : ∀ (a b : List Mv) (x : Int × Bool), sentL n (a ++ b) x = sentL n b (sentL n a x)
  | [], b, x => rfl
  | m :: r, b, x => sentL_append n r b _
theorem sent_snoc (pre : List Mv) (m : Mv) (n p : Int) : sentW (pre ++ [m]) n p = comp (sentW pre n p) (movedF m n (sentW pre n p).1) := by
  unfold sentW
  rw [sentL_append]
  rfl
theorem step_good {F : Fm} {pre : List Mv} {k : Nat} {m : Mv} (h : Good F (sentW pre) k) (hk : k ≤ 3) (ok : m.ok) : StepOk F m ∧ Good ((F.mulR (partsF m).trim).trim) (sentW (pre ++ [m])) (k + 1) := by
  have hp := part_good ok
  have hg := hp.trim (by decide)
  have hm := mul_good h hg hk
  have hm' : Good (F.mulU (partsF m).trim) (sentW (pre ++ [m])) (k + 1) := by
    have e : (fun n p => comp (sentW pre n p) (movedF m n (sentW pre n p).1)) = sentW (pre ++ [m]) := by
      funext n p
      exact (sent_snoc pre m n p).symm
    rw [e] at hm
    exact hm
  have hR : Good (F.mulR (partsF m).trim) (sentW (pre ++ [m])) (k + 1) := hm'.trim (by omega)
  obtain ⟨r1, r2, r3, r4, _, _⟩ := reached_le h hg
  have la := hp.la
  have lb := hp.lb
  exact ⟨⟨by omega, by omega, good_parts hp (by decide), ⟨by omega, by omega, by omega, by omega, fun e d h0 _ => h.deep (by omega) h0, good_parts hR (by omega)⟩⟩, hR.trim (by omega)⟩
theorem chain_good : ∀ (ws : List Mv) (F : Fm) (pre : List Mv) (k : Nat), Good F (sentW pre) k → k + ws.length ≤ 4 → (∀ m ∈ ws, m.ok) → Chain F ws ∧ Good (formL ws F) (sentW (pre ++ ws)) (k + ws.length)
  | [], F, pre, k, h, _, _ => ⟨trivial, by rw [List.append_nil]; exact h⟩
  | m :: r, F, pre, k, h, hl, ok => by
    rw [List.length_cons] at hl
    obtain ⟨s, h2⟩ := step_good h (by omega) (ok m (List.mem_cons_self))
    obtain ⟨c, h3⟩ := chain_good r _ (pre ++ [m]) (k + 1) h2 (by omega) fun x hx => ok x (List.mem_cons_of_mem _ hx)
    refine ⟨⟨s, c⟩, ?_⟩
    rw [List.append_assoc, List.singleton_append, show k + 1 + r.length = k + (m :: r).length by rw [List.length_cons]; omega] at h3
    exact h3
/-- a word of at most 4 moves -/
theorem word_good {ws : List Mv} (ok : ∀ m ∈ ws, m.ok) (hl : ws.length ≤ 4) : Chain stillF ws ∧ Good (formF ws) (sentW ws) 4 := by
  obtain ⟨c, h⟩ := chain_good ws stillF [] 0 still_good (by omega) ok
  rw [List.nil_append, Nat.zero_add] at h
  refine ⟨c, ⟨Nat.le_trans h.la (by omega), Nat.le_trans h.lb (by omega), ?_, ?_, fun n p hn => h.rep n p (by omega), h.rng, h.inj⟩⟩
  · have := h.s0
    show _ ≤ (formL ws stillF).shift
    omega
  · have := h.s1
    show (formL ws stillF).shift ≤ _
    omega
theorem big_ok {ws : List Mv} {n : Int} (g : GoodIn ws n) : BigOk ws n := by
  obtain ⟨c, h⟩ := word_good g.ok g.len
  have hl := g.len
  have r := reachF_le g.ok
  have la := h.la
  have lb := h.lb
  have n0 := g.n0
  refine ⟨⟨g.ok, by omega, by omega, c, ?_⟩, by omega, g.n1⟩
  unfold Fm.least
  omega
end Pp

set_option linter.all false
set_option maxRecDepth 10000
set_option maxHeartbeats 4000000
/-! the round of a place -/
namespace Pp
def itF (ws : List Mv) (n start : Int) : Nat → Int × Bool
  | 0 => (start, false)
  | k + 1 => ((sentW ws n (itF ws n start k).1).1, (itF ws n start k).2 != (sentW ws n (itF ws n start k).1).2)
theorem least_nat {P : Nat → Prop} : ∀ m, P m → ∃ k, P k ∧ ∀ j, j < k → ¬ P j := by
  intro m
  induction m using Nat.strongRecOn with
  | _ m ih =>
    intro h
    by_cases c : ∃ j, j < m ∧ P j
    · obtain ⟨j, hj, pj⟩ := c
      exact ih j hj pj
    · exact ⟨m, h, fun j hj pj => c ⟨j, hj, pj⟩⟩
section
variable {ws : List Mv} {n start : Int}
/-- what is known of the word at a size -/
structure At (ws : List Mv) (n start : Int) : Prop where
  g : GoodIn ws n
  h : Good (formF ws) (sentW ws) 4
  p0 : 0 ≤ start
  p1 : start < n
theorem at_of (g : GoodIn ws n) (p0 : 0 ≤ start) (p1 : start < n) : At ws n start := ⟨g, (word_good g.ok g.len).2, p0, p1⟩
theorem it_range (a : At ws n start) : ∀ k, 0 ≤ (itF ws n start k).1 ∧ (itF ws n start k).1 < n
  | 0 => ⟨a.p0, a.p1⟩
  | k + 1 => a.h.rng n _ (by have := a.g.n0; omega) (it_range a k).1 (it_range a k).2
theorem it_back (a : At ws n start) : ∀ c i j, (itF ws n start (i + c)).1 = (itF ws n start (j + c)).1 → (itF ws n start i).1 = (itF ws n start j).1
  | 0, i, j, e => e
  | c + 1, i, j, e => by
    have r1 := it_range a (i + c)
    have r2 := it_range a (j + c)
    exact it_back a c i j (a.h.inj n _ _ (by have := a.g.n0; omega) r1.1 r1.2 r2.1 r2.2 e)
theorem it_diff (a : At ws n start) {i j : Nat} (h : i < j) (e : (itF ws n start i).1 = (itF ws n start j).1) : (itF ws n start (j - i)).1 = start := by
  have := it_back a i 0 (j - i) (by rw [Nat.zero_add, Nat.sub_add_cancel (Nat.le_of_lt h)]; exact e)
  exact this.symm
structure Per (ws : List Mv) (n start : Int) (T : Nat) : Prop where
  pos : 0 < T
  le : T ≤ n.toNat
  back : (itF ws n start T).1 = start
  first : ∀ j, 0 < j → j < T → (itF ws n start j).1 ≠ start
theorem per_ex (a : At ws n start) : ∃ T, Per ws n start T := by
  have ex : ∃ T, 0 < T ∧ T ≤ n.toNat ∧ (itF ws n start T).1 = start := by
    apply Classical.byContradiction
    intro no
    have nd : ((List.range (n.toNat + 1)).map fun i => (itF ws n start i).1.toNat).Nodup := by
      rw [List.Nodup, List.pairwise_iff_getElem]
      intro i j hi hj hij z
      rw [List.getElem_map, List.getElem_map, List.getElem_range, List.getElem_range] at z
      rw [List.length_map, List.length_range] at hi hj
      have r1 := it_range a i
      have r2 := it_range a j
      exact no ⟨j - i, by omega, by omega, it_diff a hij (by omega)⟩
    have := nodup_len _ (List.range n.toNat) nd fun x hx => by
      obtain ⟨i, _, rfl⟩ := List.mem_map.mp hx
      have r1 := it_range a i
      exact List.mem_range.mpr (by omega)
    rw [List.length_map, List.length_range, List.length_range] at this
    omega
  obtain ⟨T0, h0⟩ := ex
  obtain ⟨T, ⟨t1, t2, t3⟩, hT⟩ := least_nat (P := fun T => 0 < T ∧ T ≤ n.toNat ∧ (itF ws n start T).1 = start) T0 h0
  exact ⟨T, t1, t2, t3, fun j j0 j1 e => hT j j1 ⟨j0, by omega, e⟩⟩
theorem per_ne (a : At ws n start) {T : Nat} (p : Per ws n start T) {i j : Nat} (h : i < j) (hj : j < T) : (itF ws n start i).1 ≠ (itF ws n start j).1 := fun e =>
  p.first (j - i) (by omega) (by omega) (it_diff a h e)
theorem per_same (a : At ws n start) {T : Nat} (p : Per ws n start T) {i j : Nat} (hi : i < T) (hj : j < T) (e : (itF ws n start i).1 = (itF ws n start j).1) : i = j := by
  rcases Nat.lt_trichotomy i j with h | h | h
  · exact absurd e (per_ne a p h hj)
  · exact h
  · exact absurd e.symm (per_ne a p h hi)

/-! a run through the middle -/
theorem mid_iff {F : Fm} {p : Int} : F.mid n p = true ↔ F.turned = false ∧ F.shift ≠ 0 ∧ (F.top.length : Int) ≤ p ∧ p < n - F.bottom.length := by
  unfold Fm.mid
  cases F.turned <;> simp
theorem run_facts {F : Fm} {p : Int} (h : F.mid n p = true) : 1 ≤ runF F n p start ∧ (∀ i : Int, 0 ≤ i → i < runF F n p start → (F.top.length : Int) ≤ p + F.shift * i ∧ p + F.shift * i < n - F.bottom.length) ∧ (∀ i : Int, 0 < i → i < runF F n p start → p + F.shift * i ≠ start) ∧
    (p + F.shift * runF F n p start = start ∨ ¬ ((F.top.length : Int) ≤ p + F.shift * runF F n p start ∧ p + F.shift * runF F n p start < n - F.bottom.length)) := by
  obtain ⟨_, hs, h1, h2⟩ := mid_iff.mp h
  -- the count to the end
  have key : ∃ c : Int, 1 ≤ c ∧ (∀ i : Int, 0 ≤ i → i < c → (F.top.length : Int) ≤ p + F.shift * i ∧ p + F.shift * i < n - F.bottom.length) ∧ ¬ ((F.top.length : Int) ≤ p + F.shift * c ∧ p + F.shift * c < n - F.bottom.length) ∧
      runF F n p start = if (start - p).fmod F.shift = 0 ∧ 0 < (start - p).fdiv F.shift ∧ (start - p).fdiv F.shift < c then (start - p).fdiv F.shift else c := by
    unfold runF
    generalize F.shift = s at *
    generalize (F.top.length : Int) = A at *
    generalize (F.bottom.length : Int) = B at *
    by_cases c : 0 < s
    · rw [if_pos c]
      have e1 := Int.mul_ediv_add_emod (n - B - p + s - 1) s
      have e2 := Int.emod_nonneg (n - B - p + s - 1) (show s ≠ 0 by omega)
      have e3 := Int.emod_lt_of_pos (n - B - p + s - 1) c
      generalize hq : (n - B - p + s - 1) / s = q at *
      generalize (n - B - p + s - 1) % s = r at *
      refine ⟨q, ?_, fun i i0 i1 => ?_, ?_, rfl⟩
      · apply Classical.byContradiction
        intro z
        have : s * q ≤ 0 := by
          have : s * q ≤ s * 0 := Int.mul_le_mul_of_nonneg_left (by omega) (by omega)
          rw [Int.mul_zero] at this
          exact this
        omega
      · have m1 : s * i ≤ s * (q - 1) := Int.mul_le_mul_of_nonneg_left (by omega) (by omega)
        have m2 : 0 ≤ s * i := Int.mul_nonneg (by omega) i0
        rw [Int.mul_sub, Int.mul_one] at m1
        omega
      · omega
    · rw [if_neg c]
      have e1 := Int.mul_ediv_add_emod (p - A) (-s)
      have e2 := Int.emod_nonneg (p - A) (show -s ≠ 0 by omega)
      have e3 := Int.emod_lt_of_pos (p - A) (show 0 < -s by omega)
      have e4 : 0 ≤ (p - A) / (-s) := Int.ediv_nonneg (by omega) (by omega)
      generalize hq : (p - A) / (-s) = q at *
      generalize (p - A) % (-s) = r at *
      rw [Int.neg_mul] at e1
      refine ⟨q + 1, by omega, fun i i0 i1 => ?_, ?_, rfl⟩
      · have m1 : (-s) * i ≤ (-s) * q := Int.mul_le_mul_of_nonneg_left (by omega) (by omega)
        have m2 : 0 ≤ (-s) * i := Int.mul_nonneg (by omega) i0
        rw [Int.neg_mul] at m1 m2
        rw [Int.neg_mul] at m1
        omega
      · rw [Int.mul_add, Int.mul_one]
        omega
  obtain ⟨c, c1, c2, c3, c4⟩ := key
  rw [c4]
  split
  · rename_i hc
    obtain ⟨z1, z2, z3⟩ := hc
    have e : F.shift * (start - p).fdiv F.shift = start - p := by
      have := Int.mul_fdiv_add_fmod (start - p) F.shift
      omega
    refine ⟨by omega, fun i i0 i1 => c2 i i0 (by omega), fun i i0 i1 z => ?_, .inl (by omega)⟩
    have : F.shift * i = F.shift * (start - p).fdiv F.shift := by omega
    have := Int.eq_of_mul_eq_mul_left hs this
    omega
  · rename_i hc
    refine ⟨c1, c2, fun i i0 i1 z => hc ?_, .inr c3⟩
    have e : start - p = F.shift * i := by omega
    rw [e, Int.mul_fmod_right, Int.mul_fdiv_cancel_left _ hs]
    exact ⟨rfl, i0, i1⟩
end
end Pp

set_option linter.all false
set_option maxRecDepth 10000
set_option maxHeartbeats 4000000
/-! the pieces of a way -/
namespace Pp
section
variable {ws : List Mv} {n start : Int}
/-- a piece from t on: q turns of the word -/
structure PieceAt (ws : List Mv) (n start : Int) (c : Pc) (t q : Nat) : Prop where
  pos : 1 ≤ q
  cnt : c.count = q
  at_ : ∀ i : Nat, i < q → itF ws n start (t + i) = (c.first + c.step * i, (itF ws n start t).2)
  face : (itF ws n start (t + q)).2 = ((itF ws n start t).2 != c.turn)
  one : c.step = 0 → q = 1
  step : c.step.natAbs < 1000
theorem sent_mid (a : At ws n start) {p : Int} (h : (formF ws).mid n p = true) : sentW ws n p = (p + (formF ws).shift, false) := by
  obtain ⟨ht, hs, h1, h2⟩ := mid_iff.mp h
  have n0 := a.g.n0
  rw [mid_rule a.h (by omega) h1 h2, ht]
  rfl
theorem step_spec (a : At ws n start) {T : Nat} (p : Per ws n start T) {t : Nat} (ht : t < T) : ∃ q, PieceAt ws n start (stepF ws n start (itF ws n start t).1).1 t q ∧ t + q ≤ T ∧ (stepF ws n start (itF ws n start t).1).2 = (itF ws n start (t + q)).1 := by
  have s0 := a.h.s0
  have s1 := a.h.s1
  cases hm : (formF ws).mid n (itF ws n start t).1 with
  | true =>
    have st : stepF ws n start (itF ws n start t).1 = (⟨(itF ws n start t).1, (formF ws).shift, runF (formF ws) n (itF ws n start t).1 start, false⟩, (itF ws n start t).1 + (formF ws).shift * runF (formF ws) n (itF ws n start t).1 start) := by
      unfold stepF
      simp only [hm, if_true]
    obtain ⟨r1, r2, r3, r4⟩ := run_facts (n := n) (start := start) hm
    obtain ⟨mt, ms, _, _⟩ := mid_iff.mp hm
    rw [st]
    obtain ⟨q, hq⟩ := Int.eq_ofNat_of_zero_le (show 0 ≤ runF (formF ws) n (itF ws n start t).1 start by omega)
    rw [hq] at r1 r2 r3 r4 ⊢
    have go : ∀ i : Nat, i ≤ q → itF ws n start (t + i) = ((itF ws n start t).1 + (formF ws).shift * i, (itF ws n start t).2) := by
      intro i
      induction i with
      | zero =>
        intro _
        rw [show ((0 : Nat) : Int) = 0 from rfl, Int.mul_zero, Int.add_zero]
        rfl
      | succ i ih =>
        intro hi
        have e := ih (by omega)
        have b := r2 (i : Int) (by omega) (by omega)
        have e2 : itF ws n start (t + (i + 1)) = ((sentW ws n (itF ws n start (t + i)).1).1, (itF ws n start (t + i)).2 != (sentW ws n (itF ws n start (t + i)).1).2) := rfl
        rw [e2, e]
        simp only
        rw [sent_mid a (mid_iff.mpr ⟨mt, ms, b.1, b.2⟩)]
        simp only [Bool.bne_false]
        rw [show (((i + 1 : Nat)) : Int) = (i : Int) + 1 from rfl, Int.mul_add, Int.mul_one, Int.add_assoc]
    refine ⟨q, ⟨by omega, rfl, fun i hi => go i (by omega), ?_, fun z => absurd z ms, by show (formF ws).shift.natAbs < 1000; omega⟩, ?_, ?_⟩
    · rw [go q (Nat.le_refl q)]
      simp
    · apply Classical.byContradiction
      intro z
      have e := go (T - t) (by omega)
      rw [show t + (T - t) = T by omega] at e
      have b := p.back
      rw [e] at b
      exact r3 ((T - t : Nat) : Int) (by omega) (by omega) b
    · rw [go q (Nat.le_refl q)]
  | false =>
    have st : stepF ws n start (itF ws n start t).1 = (⟨(itF ws n start t).1, 0, 1, (sentW ws n (itF ws n start t).1).2⟩, (sentW ws n (itF ws n start t).1).1) := by
      unfold stepF
      simp only [hm]
      rfl
    rw [st]
    refine ⟨1, ⟨Nat.le_refl 1, rfl, fun i hi => ?_, rfl, fun _ => rfl, show (0 : Int).natAbs < 1000 by decide⟩, by omega, rfl⟩
    have : i = 0 := by omega
    subst this
    show itF ws n start t = _
    simp
/-- the turns before the k-th piece -/
def tK (ws : List Mv) (n start : Int) : Nat → Nat
  | 0 => 0
  | k + 1 => tK ws n start k + (pcN ws n start k).count.toNat
theorem here_at (a : At ws n start) {T : Nat} (p : Per ws n start T) : ∀ k, (∀ j, j < k → tK ws n start j < T) → hereN ws n start k = (itF ws n start (tK ws n start k)).1 ∧ tK ws n start k ≤ T ∧ k ≤ tK ws n start k
  | 0, _ => ⟨rfl, Nat.zero_le _, Nat.le_refl 0⟩
  | k + 1, h => by
    obtain ⟨h1, h2, h3⟩ := here_at a p k fun j hj => h j (by omega)
    obtain ⟨q, s1, s2, s3⟩ := step_spec a p (h k (Nat.lt_succ_self k))
    have hp : pcN ws n start k = (stepF ws n start (itF ws n start (tK ws n start k)).1).1 := by
      show (stepF ws n start (hereN ws n start k)).1 = _
      rw [h1]
    have ht : tK ws n start (k + 1) = tK ws n start k + q := by
      show tK ws n start k + (pcN ws n start k).count.toNat = _
      rw [hp, s1.cnt]
      rfl
    have q1 := s1.pos
    refine ⟨?_, by omega, by omega⟩
    show (stepF ws n start (hereN ws n start k)).2 = _
    rw [h1, s3, ht]
/-- the pieces up to the k-th lead to T -/
structure Way (ws : List Mv) (n start : Int) (T K : Nat) : Prop where
  pos : 0 < K
  lt : ∀ j, j < K → tK ws n start j < T
  eq : tK ws n start K = T
theorem way_ex (a : At ws n start) {T : Nat} (p : Per ws n start T) : ∃ K, Way ws n start T K := by
  have ex : ∃ k, T ≤ tK ws n start k := by
    apply Classical.byContradiction
    intro no
    have all : ∀ j, tK ws n start j < T := fun j => Nat.lt_of_not_le fun z => no ⟨j, z⟩
    have := (here_at a p T fun j _ => all j).2.2
    have := all T
    omega
  obtain ⟨k0, h0⟩ := ex
  obtain ⟨K, h1, h2⟩ := least_nat (P := fun k => T ≤ tK ws n start k) k0 h0
  have lt : ∀ j, j < K → tK ws n start j < T := fun j hj => Nat.lt_of_not_le (h2 j hj)
  have := (here_at a p K lt).2.1
  refine ⟨K, ?_, lt, by omega⟩
  cases K with
  | zero =>
    have := p.pos
    have : tK ws n start 0 = 0 := rfl
    omega
  | succ K => exact Nat.succ_pos K
theorem tK_mono (a : At ws n start) {T K : Nat} (p : Per ws n start T) (w : Way ws n start T K) {i : Nat} : ∀ d, i + d ≤ K → tK ws n start i + d ≤ tK ws n start (i + d)
  | 0, _ => Nat.le_refl _
  | d + 1, h => by
    have ih := tK_mono a p w (i := i) d (by omega)
    obtain ⟨h1, _⟩ := here_at a p (i + d) fun j hj => w.lt j (by omega)
    obtain ⟨q, s1, s2, s3⟩ := step_spec a p (w.lt (i + d) (by omega))
    have hp : pcN ws n start (i + d) = (stepF ws n start (itF ws n start (tK ws n start (i + d))).1).1 := by
      show (stepF ws n start (hereN ws n start (i + d))).1 = _
      rw [h1]
    have ht : tK ws n start (i + (d + 1)) = tK ws n start (i + d) + q := by
      show tK ws n start (i + d) + (pcN ws n start (i + d)).count.toNat = _
      rw [hp, s1.cnt]
      rfl
    have := s1.pos
    omega
theorem way_back (a : At ws n start) {T K : Nat} (p : Per ws n start T) (w : Way ws n start T K) : Back ws n start K := by
  refine ⟨w.pos, ?_, fun j j0 j1 => ?_⟩
  · rw [(here_at a p K w.lt).1, w.eq]
    exact p.back
  · rw [(here_at a p j fun i hi => w.lt i (by omega)).1]
    have := (here_at a p j fun i hi => w.lt i (by omega)).2.2
    exact p.first _ (by omega) (w.lt j j1)
theorem back_one {K K' : Nat} (b : Back ws n start K) (b' : Back ws n start K') : K = K' := by
  rcases Nat.lt_trichotomy K K' with h | h | h
  · exact absurd b.back (b'.first K b.pos h)
  · exact h
  · exact absurd b'.back (b.first K' b'.pos h)
theorem here_ne (a : At ws n start) {T K : Nat} (p : Per ws n start T) (w : Way ws n start T K) {i j : Nat} (h : i < j) (hj : j < K) : hereN ws n start i ≠ hereN ws n start j := by
  rw [(here_at a p i fun k hk => w.lt k (by omega)).1, (here_at a p j fun k hk => w.lt k (by omega)).1]
  have := tK_mono a p w (i := i) (j - i) (by omega)
  rw [show i + (j - i) = j by omega] at this
  exact per_ne a p (by omega) (w.lt j hj)
theorem here_range (a : At ws n start) {T K : Nat} (p : Per ws n start T) (w : Way ws n start T K) {i : Nat} (h : i ≤ K) : 0 ≤ hereN ws n start i ∧ hereN ws n start i < n := by
  rw [(here_at a p i fun k hk => w.lt k (by omega)).1]
  exact it_range a _
/-- places at the ends -/
def Edge (ws : List Mv) (n p : Int) : Prop := p < (formF ws).top.length ∨ n - (formF ws).bottom.length ≤ p
/-- of two places that follow, one is at an end -/
theorem two_edge (a : At ws n start) {T K : Nat} (p : Per ws n start T) (w : Way ws n start T K) {k : Nat} (hk : k + 2 < K) : Edge ws n (hereN ws n start k) ∨ Edge ws n (hereN ws n start (k + 1)) := by
  apply Classical.byContradiction
  intro no
  have n0 := a.g.n0
  have in0 : (formF ws).top.length ≤ hereN ws n start k ∧ hereN ws n start k < n - (formF ws).bottom.length := by
    have : ¬ Edge ws n (hereN ws n start k) := fun z => no (.inl z)
    unfold Edge at this
    omega
  have in1 : (formF ws).top.length ≤ hereN ws n start (k + 1) ∧ hereN ws n start (k + 1) < n - (formF ws).bottom.length := by
    have : ¬ Edge ws n (hereN ws n start (k + 1)) := fun z => no (.inr z)
    unfold Edge at this
    omega
  have e0 : hereN ws n start (k + 1) = (stepF ws n start (hereN ws n start k)).2 := rfl
  have e1 : hereN ws n start (k + 2) = (stepF ws n start (hereN ws n start (k + 1))).2 := rfl
  cases hm : (formF ws).mid n (hereN ws n start k) with
  | true =>
    have r4 := (run_facts (n := n) (start := start) hm).2.2.2
    have st : (stepF ws n start (hereN ws n start k)).2 = hereN ws n start k + (formF ws).shift * runF (formF ws) n (hereN ws n start k) start := by
      unfold stepF
      simp only [hm, if_true]
    rw [st] at e0
    rw [← e0] at r4
    rcases r4 with r4 | r4
    · exact (way_back a p w).first (k + 1) (Nat.succ_pos k) (by omega) r4
    · exact r4 in1
  | false =>
    have st : ∀ q, (formF ws).mid n q = false → (stepF ws n start q).2 = (sentW ws n q).1 := by
      intro q hq
      unfold stepF
      simp only [hq]
      rfl
    rw [st _ hm, mid_rule a.h (by omega) in0.1 in0.2] at e0
    cases ht : (formF ws).turned with
    | false =>
      have hs : (formF ws).shift = 0 := by
        apply Classical.byContradiction
        intro z
        have := mid_iff.mpr ⟨ht, z, in0.1, in0.2⟩
        rw [hm] at this
        cases this
      rw [ht, hs] at e0
      have e0 : hereN ws n start (k + 1) = hereN ws n start k + 0 := e0
      exact here_ne a p w (show k < k + 1 by omega) (by omega) (by omega)
    | true =>
      have hm1 : (formF ws).mid n (hereN ws n start (k + 1)) = false := by
        unfold Fm.mid
        rw [ht]
        rfl
      rw [st _ hm1, mid_rule a.h (by omega) in1.1 in1.2, ht] at e1
      rw [ht] at e0
      have e0 : hereN ws n start (k + 1) = n - 1 - (hereN ws n start k - (formF ws).shift) := e0
      have e1 : hereN ws n start (k + 2) = n - 1 - (hereN ws n start (k + 1) - (formF ws).shift) := e1
      exact here_ne a p w (show k < k + 2 by omega) hk (by omega)
theorem few_pieces (a : At ws n start) {T K : Nat} (p : Per ws n start T) (w : Way ws n start T K) : K ≤ 1000 := by
  apply Classical.byContradiction
  intro big
  have n0 := a.g.n0
  have la := a.h.la
  have lb := a.h.lb
  -- an end place out of each pair
  have pick : ∀ j : Nat, j < 100 → ∃ i, (i = 2 * j ∨ i = 2 * j + 1) ∧ Edge ws n (hereN ws n start i) := fun j hj => by
    rcases two_edge a p w (k := 2 * j) (by omega) with h | h
    · exact ⟨_, .inl rfl, h⟩
    · exact ⟨_, .inr rfl, h⟩
  have ch : ∃ c : Nat → Nat, ∀ j, j < 100 → (c j = 2 * j ∨ c j = 2 * j + 1) ∧ Edge ws n (hereN ws n start (c j)) := by
    refine ⟨fun j => if h : j < 100 then (pick j h).choose else 0, fun j hj => ?_⟩
    simp only [hj, dif_pos]
    exact (pick j hj).choose_spec
  obtain ⟨c, hc⟩ := ch
  have nd : ((List.range 100).map fun j => hereN ws n start (c j)).Nodup := by
    rw [List.Nodup, List.pairwise_iff_getElem]
    intro i j hi hj hij
    rw [List.length_map, List.length_range] at hi hj
    rw [List.getElem_map, List.getElem_map, List.getElem_range, List.getElem_range]
    have h1 := (hc i hi).1
    have h2 := (hc j hj).1
    exact here_ne a p w (by omega) (by omega)
  have := nodup_len _ (((List.range (formF ws).top.length).map fun (i : Nat) => (i : Int)) ++ ((List.range (formF ws).bottom.length).map fun (i : Nat) => n - 1 - (i : Int))) nd fun x hx => by
    obtain ⟨j, hj, rfl⟩ := List.mem_map.mp hx
    rw [List.mem_range] at hj
    obtain ⟨h1, h2⟩ := hc j hj
    have r := here_range a p w (i := c j) (by omega)
    rw [List.mem_append, List.mem_map, List.mem_map]
    rcases h2 with h2 | h2
    · exact .inl ⟨(hereN ws n start (c j)).toNat, List.mem_range.mpr (by omega), Int.toNat_of_nonneg r.1⟩
    · exact .inr ⟨(n - 1 - hereN ws n start (c j)).toNat, List.mem_range.mpr (by omega), by rw [Int.toNat_of_nonneg (by omega)]; omega⟩
  rw [List.length_map, List.length_range, List.length_append, List.length_map, List.length_map, List.length_range, List.length_range] at this
  omega
end
end Pp

set_option linter.all false
set_option maxRecDepth 10000
set_option maxHeartbeats 4000000
/-! what the library reads off a way's pieces -/
namespace Pp
section
variable {ws : List Mv} {n start : Int}
/-- the pieces lead from t to T -/
def Cov (ws : List Mv) (n start : Int) : List Pc → Nat → Nat → Prop
  | [], t, T => t = T
  | c :: r, t, T => ∃ q, PieceAt ws n start c t q ∧ Cov ws n start r (t + q) T
theorem Cov.le : ∀ {ps : List Pc} {t T : Nat}, Cov ws n start ps t T → t ≤ T
  | [], t, T, h => Nat.le_of_eq h
  | c :: r, t, T, ⟨q, h1, h2⟩ => by
    have := h2.le
    omega
theorem way_cov (a : At ws n start) {T K : Nat} (p : Per ws n start T) (w : Way ws n start T K) : ∀ m k, k + m = K → Cov ws n start ((List.range m).map fun i => pcN ws n start (k + i)) (tK ws n start k) T
  | 0, k, h => by
    rw [Nat.add_zero] at h
    rw [h]
    exact w.eq
  | m + 1, k, h => by
    obtain ⟨h1, _⟩ := here_at a p k fun j hj => w.lt j (by omega)
    obtain ⟨q, s1, s2, s3⟩ := step_spec a p (w.lt k (by omega))
    have hp : pcN ws n start k = (stepF ws n start (itF ws n start (tK ws n start k)).1).1 := by
      show (stepF ws n start (hereN ws n start k)).1 = _
      rw [h1]
    have ht : tK ws n start (k + 1) = tK ws n start k + q := by
      show tK ws n start k + (pcN ws n start k).count.toNat = _
      rw [hp, s1.cnt]
      rfl
    rw [List.range_succ_eq_map, List.map_cons, List.map_map]
    refine ⟨q, ?_, ?_⟩
    · rw [Nat.add_zero, hp]
      exact s1
    · rw [← ht]
      have ih := way_cov a p w m (k + 1) (by omega)
      have e : ((fun i => pcN ws n start (k + i)) ∘ Nat.succ) = fun i => pcN ws n start (k + 1 + i) := by
        funext i
        show pcN ws n start (k + (i + 1)) = _
        rw [show k + (i + 1) = k + 1 + i by omega]
      rw [e]
      exact ih
theorem wayL_cov (a : At ws n start) {T K : Nat} (p : Per ws n start T) (w : Way ws n start T K) : Cov ws n start (wayL ws n start K) 0 T := by
  have := way_cov a p w K 0 (Nat.zero_add K)
  have e : (fun i => pcN ws n start (0 + i)) = pcN ws n start := by
    funext i
    rw [Nat.zero_add]
  rw [e] at this
  exact this
theorem cov_ok : ∀ {ps : List Pc} {t T : Nat}, Cov ws n start ps t T → ∀ c ∈ ps, c.step.natAbs < 1000 ∧ 0 ≤ c.count ∧ c.count ≤ T
  | [], t, T, _, c, hc => by cases hc
  | x :: r, t, T, ⟨q, h1, h2⟩, c, hc => by
    rcases List.mem_cons.mp hc with rfl | hc
    · have := h2.le
      have := h1.cnt
      exact ⟨h1.step, by omega, by omega⟩
    · exact cov_ok h2 c hc
theorem cov_total : ∀ {ps : List Pc} {t T : Nat} (l : Int) (b : Bool), Cov ws n start ps t T → totalF ps (l, b) = (l + ((T - t : Nat) : Int), b != ((itF ws n start t).2 != (itF ws n start T).2))
  | [], t, T, l, b, h => by
    have h : t = T := h
    subst h
    show (l, b) = _
    rw [Nat.sub_self]
    simp
  | c :: r, t, T, l, b, ⟨q, h1, h2⟩ => by
    have hle := h2.le
    show totalF r (l + c.count, b != c.turn) = _
    rw [cov_total _ _ h2, h1.cnt, h1.face]
    refine Prod.ext ?_ ?_
    · show l + (q : Int) + ((T - (t + q) : Nat) : Int) = l + ((T - t : Nat) : Int)
      omega
    · show ((b != c.turn) != (((itF ws n start t).2 != c.turn) != (itF ws n start T).2)) = (b != ((itF ws n start t).2 != (itF ws n start T).2))
      cases b <;> cases c.turn <;> cases (itF ws n start t).2 <;> cases (itF ws n start T).2 <;> rfl
theorem cov_found (place : Int) : ∀ {ps : List Pc} {t T : Nat} (i : Nat) (f : Bool), Cov ws n start ps t T → t + i < T → foundF place ps (i : Int) f = ((itF ws n start (t + i)).1, f != ((itF ws n start t).2 != (itF ws n start (t + i)).2))
  | [], t, T, i, f, h, hi => by
    have h : t = T := h
    omega
  | c :: r, t, T, i, f, ⟨q, h1, h2⟩, hi => by
    rw [foundF_cons, h1.cnt]
    by_cases hq : i < q
    · rw [if_pos (by omega), h1.at_ i hq]
      simp
    · rw [if_neg (by omega), show (i : Int) - (q : Int) = ((i - q : Nat) : Int) by omega, cov_found place (i - q) _ h2 (by omega), show t + q + (i - q) = t + i by omega, h1.face]
      refine Prod.ext rfl ?_
      show ((f != c.turn) != (((itF ws n start t).2 != c.turn) != (itF ws n start (t + i)).2)) = (f != ((itF ws n start t).2 != (itF ws n start (t + i)).2))
      cases f <;> cases c.turn <;> cases (itF ws n start t).2 <;> cases (itF ws n start (t + i)).2 <;> rfl
theorem cov_seen (a : At ws n start) {T : Nat} (p : Per ws n start T) : ∀ {ps : List Pc} {t : Nat} (i : Nat) (l : Int) (f : Bool), Cov ws n start ps t T → t + i < T → seenF (itF ws n start (t + i)).1 ps l f = some (l + i, f != ((itF ws n start t).2 != (itF ws n start (t + i)).2))
  | [], t, i, l, f, h, hi => by
    have h : t = T := h
    omega
  | c :: r, t, i, l, f, ⟨q, h1, h2⟩, hi => by
    have hle := h2.le
    rw [seenF_cons]
    by_cases hq : i < q
    · have e : aheadF (itF ws n start (t + i)).1 c = i := by
        unfold aheadF
        split
        · rename_i z
          have := h1.one z
          omega
        · rename_i z
          rw [h1.at_ i hq]
          show (c.first + c.step * (i : Int) - c.first).fdiv c.step = i
          rw [show c.first + c.step * (i : Int) - c.first = c.step * (i : Int) by omega, Int.mul_fdiv_cancel_left _ z]
      rw [e, h1.at_ i hq, if_pos ⟨⟨by omega, by rw [h1.cnt]; omega⟩, rfl⟩]
      simp
    · rw [if_neg ?_, cov_seen' a p i l f h1 h2 hi hq]
      rintro ⟨⟨z1, z2⟩, z3⟩
      obtain ⟨j, hj⟩ := Int.eq_ofNat_of_zero_le z1
      rw [hj] at z2 z3
      rw [h1.cnt] at z2
      have := h1.at_ j (by omega)
      have e : (itF ws n start (t + j)).1 = (itF ws n start (t + i)).1 := by
        rw [this]
        exact z3
      have := per_same a p (i := t + j) (j := t + i) (by omega) hi e
      omega
where
  cov_seen' (a : At ws n start) {T : Nat} (p : Per ws n start T) {r : List Pc} {t q : Nat} {c : Pc} (i : Nat) (l : Int) (f : Bool) (h1 : PieceAt ws n start c t q) (h2 : Cov ws n start r (t + q) T) (hi : t + i < T) (hq : ¬ i < q) : seenF (itF ws n start (t + i)).1 r (l + c.count) (f != c.turn) = some (l + i, f != ((itF ws n start t).2 != (itF ws n start (t + i)).2)) := by
    have ih := cov_seen a p (i - q) (l + c.count) (f != c.turn) h2 (by omega)
    rw [show t + q + (i - q) = t + i by omega] at ih
    rw [ih, h1.cnt, h1.face]
    refine congrArg some (Prod.ext ?_ ?_)
    · show l + (q : Int) + ((i - q : Nat) : Int) = l + i
      omega
    · show ((f != c.turn) != (((itF ws n start t).2 != c.turn) != (itF ws n start (t + i)).2)) = (f != ((itF ws n start t).2 != (itF ws n start (t + i)).2))
      cases f <;> cases c.turn <;> cases (itF ws n start t).2 <;> cases (itF ws n start (t + i)).2 <;> rfl
end
end Pp

set_option linter.all false
set_option maxRecDepth 10000
set_option maxHeartbeats 4000000
/-! the law's reckoning -/
namespace Pp
section
variable {ws : List Mv} {n start : Int}
theorem it_T {T : Nat} (p : Per ws n start T) : ∀ i, itF ws n start (T + i) = ((itF ws n start i).1, (itF ws n start T).2 != (itF ws n start i).2)
  | 0 => by
    refine Prod.ext p.back ?_
    show (itF ws n start T).2 = ((itF ws n start T).2 != false)
    rw [Bool.bne_false]
  | i + 1 => by
    have ih := it_T p i
    show ((sentW ws n (itF ws n start (T + i)).1).1, (itF ws n start (T + i)).2 != (sentW ws n (itF ws n start (T + i)).1).2) = _
    rw [ih]
    refine Prod.ext rfl ?_
    show (((itF ws n start T).2 != (itF ws n start i).2) != (sentW ws n (itF ws n start i).1).2) = ((itF ws n start T).2 != ((itF ws n start i).2 != (sentW ws n (itF ws n start i).1).2))
    rw [Bool.bne_assoc]
/-- pieces of a way: all that is read off them -/
structure Rd (ws : List Mv) (n start : Int) (T : Nat) (ps : List Pc) : Prop where
  per : Per ws n start T
  total : totalF ps (0, false) = ((T : Int), (itF ws n start T).2)
  found : ∀ (i : Nat) (f : Bool), i < T → foundF start ps (i : Int) f = ((itF ws n start i).1, f != (itF ws n start i).2)
  seen : ∀ i : Nat, i < T → seenF (itF ws n start i).1 ps 0 false = some ((i : Int), (itF ws n start i).2)
theorem rd_of (a : At ws n start) {T K : Nat} (p : Per ws n start T) (w : Way ws n start T K) : Rd ws n start T (wayL ws n start K) := by
  have c := wayL_cov a p w
  refine ⟨p, ?_, fun i f hi => ?_, fun i hi => ?_⟩
  · rw [cov_total 0 false c]
    refine Prod.ext ?_ ?_
    · show (0 : Int) + ((T - 0 : Nat) : Int) = T
      omega
    · show (false != (false != (itF ws n start T).2)) = _
      simp
  · rw [cov_found start i f c (by omega), Nat.zero_add]
    refine Prod.ext rfl ?_
    show (f != (false != (itF ws n start i).2)) = _
    simp
  · have := cov_seen a p i 0 false c (by omega)
    rw [Nat.zero_add, Int.zero_add] at this
    rw [this]
    refine congrArg some (Prod.ext rfl ?_)
    show (false != (false != (itF ws n start i).2)) = _
    simp
theorem natAbs_runF (a : At ws n start) {p : Int} (h0 : 0 ≤ p) (h1 : p < n) : (runF (formF ws) n p start).natAbs < big := by
  have n0 := a.g.n0
  have n1 := a.g.n1
  have la := a.h.la
  have lb := a.h.lb
  have s0 := a.h.s0
  have s1 := a.h.s1
  have v1 : (10 ^ 30 : Int) = 1000000000000000000000000000000 := by decide +kernel
  have vb : (10000000000000000000000000000000 : Nat) < big := by decide +kernel
  have c0 : ∀ c : Int, c.natAbs ≤ 5000000000000000000000000000000 → (if (start - p).fmod (formF ws).shift = 0 ∧ 0 < (start - p).fdiv (formF ws).shift ∧ (start - p).fdiv (formF ws).shift < c then (start - p).fdiv (formF ws).shift else c).natAbs < big := by
    intro c hc
    split <;> omega
  unfold runF
  refine c0 _ ?_
  split
  · have := Int.natAbs_ediv_le_natAbs (n - (formF ws).bottom.length - p + (formF ws).shift - 1) (formF ws).shift
    omega
  · have := Int.natAbs_ediv_le_natAbs (p - (formF ws).top.length) (-(formF ws).shift)
    omega
theorem trk_of (a : At ws n start) {T K : Nat} (p : Per ws n start T) (w : Way ws n start T K) : TrkOk ws n start K := by
  have n0 := a.g.n0
  have n1 := a.g.n1
  have s0 := a.h.s0
  have s1 := a.h.s1
  have v1 : (10 ^ 30 : Int) = 1000000000000000000000000000000 := by decide +kernel
  have vb : (10000000000000000000000000000000 : Nat) < big := by decide +kernel
  have r := rd_of a p w
  have tl := p.le
  have tp := p.pos
  refine ⟨⟨way_back a p w, few_pieces a p w, by omega, by omega, fun j hj => ?_⟩, fun c hc => ?_, ?_, ?_⟩
  · have := here_range a p w (Nat.le_of_lt hj)
    exact natAbs_runF a this.1 this.2
  · obtain ⟨c1, c2, c3⟩ := cov_ok (wayL_cov a p w) c hc
    exact ⟨c1, c2, by omega⟩
  · rw [r.total]
    show (0 : Int) < T
    omega
  · rw [r.total]
    show ((T : Nat) : Int).natAbs < big
    omega
/-- every such count of pieces is the one -/
theorem rd_any (a : At ws n start) {N : Nat} (t : TrkOk ws n start N) : ∃ T, Rd ws n start T (wayL ws n start N) := by
  obtain ⟨T, p⟩ := per_ex a
  obtain ⟨K, w⟩ := way_ex a p
  have e := back_one (way_back a p w) t.way.back
  rw [← e]
  exact ⟨T, rd_of a p w⟩
theorem after_of {T : Nat} {ps : List Pc} (r : Rd ws n start T ps) (R : Nat) : afterF ps start (R : Int) = ((itF ws n start (R % T)).1, ((itF ws n start T).2 && decide (R / T % 2 = 1)) != (itF ws n start (R % T)).2) := by
  unfold afterF
  simp only
  rw [r.total]
  show foundF start ps ((R : Int) % (T : Int)) ((itF ws n start T).2 && decide ((R : Int) / (T : Int) % 2 = 1)) = _
  have e : decide ((R : Int) / (T : Int) % 2 = 1) = decide (R / T % 2 = 1) := dec_iff (by omega)
  rw [← Int.natCast_emod, r.found _ _ (Nat.mod_lt _ r.per.pos), e]
theorem per_one {T T' : Nat} (p : Per ws n start T) (p' : Per ws n start T') : T = T' := by
  rcases Nat.lt_trichotomy T T' with h | h | h
  · exact absurd p.back (p'.first T p.pos h)
  · exact h
  · exact absurd p'.back (p.first T' p'.pos h)
theorem math_want (a : At ws n start) {N : Nat} {R : Int} {face : Option Bool} (t : TrkOk ws n start N) (R0 : 0 ≤ R) (hf : face = none ∨ face = some (afterF (wayL ws n start N) start R).2) : ∃ m, WantOk ws n R ⟨start, (afterF (wayL ws n start N) start R).1, face, m⟩ := by
  obtain ⟨T, r⟩ := rd_any a t
  obtain ⟨R, rfl⟩ := Int.eq_ofNat_of_zero_le R0
  have n0 := a.g.n0
  have n1 := a.g.n1
  have v1 : (10 ^ 30 : Int) = 1000000000000000000000000000000 := by decide +kernel
  have tl := r.per.le
  have tp := r.per.pos
  have hlt := Nat.mod_lt R tp
  have rg := it_range a (R % T)
  have af := after_of r R
  -- what a pile shows again after R' rounds
  have again : ∀ R' : Int, 0 ≤ R' → ∀ N', TrkOk ws n start N' → ∃ k : Nat, R' = k ∧ afterF (wayL ws n start N') start R' = ((itF ws n start (k % T)).1, ((itF ws n start T).2 && decide (k / T % 2 = 1)) != (itF ws n start (k % T)).2) := by
    intro R' h N' t'
    obtain ⟨k, rfl⟩ := Int.eq_ofNat_of_zero_le h
    obtain ⟨T', r'⟩ := rd_any a t'
    have := per_one r'.per r.per
    subst this
    exact ⟨k, rfl, after_of r' k⟩
  have seen := r.seen (R % T) hlt
  by_cases c : face = none ∨ (itF ws n start T).2 = false
  · -- the rounds count by T
    refine ⟨T, ⟨a.p0, a.p1, by rw [af]; exact rg.1, by rw [af]; exact rg.2, by show (0 : Int) < T; omega, by show (T : Int) ≤ _; omega, N, t, ?_⟩, fun R' h0 he N' t' => ?_⟩
    · show metF (wayL ws n start N) (afterF (wayL ws n start N) start (R : Int)).1 face = some ((R : Int) % (T : Int), (T : Int))
      rw [af]
      unfold metF
      simp only
      rw [seen, r.total]
      rcases hf with rfl | rfl
      · show some (((R % T : Nat) : Int), (T : Int)) = _
        rw [Int.natCast_emod]
      · rcases c with c | c
        · cases c
        · rw [af, c]
          simp
    · obtain ⟨k, rfl, e⟩ := again R' h0 N' t'
      have he : (k : Int) % (T : Int) = (R : Int) % (T : Int) := he
      have he2 : k % T = R % T := by omega
      rw [e, af, he2]
      refine ⟨rfl, fun b hb => ?_⟩
      have hb : face = some b := hb
      rcases hf with rfl | rfl
      · cases hb
      · rcases c with c | c
        · cases c
        · rw [af] at hb
          injection hb with hb
          rw [← hb, c]
          rfl
  · -- a face is asked, and a whole round turns it
    have cf : (itF ws n start T).2 = true := by
      cases h : (itF ws n start T).2 with
      | true => rfl
      | false => exact absurd (.inr h) c
    rcases hf with hf | hf
    · exact absurd (.inl hf) c
    subst hf
    have two : ∀ k : Nat, k % (T * 2) / T = k / T % 2 := fun k => Nat.mod_mul_right_div_self k T 2
    refine ⟨2 * T, ⟨a.p0, a.p1, by rw [af]; exact rg.1, by rw [af]; exact rg.2, by show (0 : Int) < 2 * T; omega, by show (2 * T : Int) ≤ _; omega, N, t, ?_⟩, fun R' h0 he N' t' => ?_⟩
    · show metF (wayL ws n start N) (afterF (wayL ws n start N) start (R : Int)).1 (some (afterF (wayL ws n start N) start (R : Int)).2) = some ((R : Int) % (2 * T : Int), (2 * T : Int))
      rw [af]
      unfold metF
      simp only
      rw [seen, r.total]
      simp only [cf, if_true, Bool.true_and]
      have h1 := two R
      have h2 := Nat.div_add_mod (R % (T * 2)) T
      have h3 : R % (T * 2) % T = R % T := Nat.mod_mul_right_mod R T 2
      have h4 : ((R : Int) % (2 * (T : Int))) = ((R % (T * 2) : Nat) : Int) := by
        rw [Int.natCast_emod, Int.natCast_mul, Int.mul_comm]
        rfl
      rw [h4]
      rw [h1, h3] at h2
      have h5 : R / T % 2 = 0 ∨ R / T % 2 = 1 := by omega
      rcases h5 with h5 | h5
      · rw [h5, Nat.mul_zero, Nat.zero_add] at h2
        rw [h5, ← h2]
        simp
      · rw [h5, Nat.mul_one] at h2
        rw [h5, ← h2]
        cases (itF ws n start (R % T)).2 <;> simp <;> omega
    · obtain ⟨k, rfl, e⟩ := again R' h0 N' t'
      have he : (k : Int) % (2 * (T : Int)) = (R : Int) % (2 * (T : Int)) := he
      have he2 : k % (T * 2) = R % (T * 2) := by
        have e1 : ∀ z : Nat, ((z : Int) % (2 * (T : Int))) = ((z % (T * 2) : Nat) : Int) := fun z => by
          rw [Int.natCast_emod, Int.natCast_mul, Int.mul_comm]
          rfl
        rw [e1, e1] at he
        omega
      have q1 : k % T = R % T := by
        rw [← Nat.mod_mul_right_mod k T 2, ← Nat.mod_mul_right_mod R T 2, he2]
      have q2 : k / T % 2 = R / T % 2 := by
        rw [← two, ← two, he2]
      rw [e, af, q1, q2]
      refine ⟨rfl, fun b hb => ?_⟩
      exact Option.some.inj hb
end
theorem math : MathP := by
  refine ⟨fun ws n g => big_ok g, fun ws n p g p0 p1 => ?_, fun ws n p N R face g p0 p1 t R0 hf => math_want (at_of g p0 p1) t R0 hf⟩
  have a := at_of g p0 p1
  obtain ⟨T, q⟩ := per_ex a
  obtain ⟨K, w⟩ := way_ex a q
  exact ⟨K, trk_of a q w⟩
end Pp

set_option Elab.async false
set_option linter.all false
set_option maxRecDepth 100000
set_option maxHeartbeats 0
/-! the law holds -/
namespace Pp
open PySem PySem.Spec PyProof.Rows L2
theorem facts (M : MathP) {P : Program} {w : World} {K : PySem.W.Frag} {h : Heap} {mg : Str → Option Value} {f : Addr} (X : K.In h) (G : h.Ns mainGlobals mg) (hfa : mg ("law" : Str) = some (.ref f)) (c : SaysP w K) :
    ∃ fd : FuncData, (∀ (s : Shared) (v : Value), BindsTo s fd ⟨[v], []⟩ [("_law_script", v)]) ∧ ∀ base : Heap, K.In base → base.Ns mainGlobals mg → FnOk P w K mg base CX0 14 f fd ["_law_script"] (sp_law (K := K)) := by
  have T : Tx w K mg := ⟨c, h, X, G⟩
  obtain ⟨fd, F⟩ := T.d_law
  have e := hfa.symm.trans T.g_law
  cases e
  have b := FunD.bindsA (ps := ["_law_script"]) F fun _ _ _ _ _ _ us hl => match us, hl with | [_], _ => rfl
  exact ⟨fd, fun s v => b s [v] rfl, fun base _ _ => ok_law T M F⟩
end Pp
open PySem PySem.W PySem.Calls PyProof.Rows
theorem PySem.Challenge.cw_pileports_k51_whole_wishes_are_met_holds : PySem.Challenge.rw_pileports_k51_whole_wishes_are_met.Holds := by
  w_on; o_law
  refine HandSHeadRun.head_any (r := OpenLaw.row PySem.Challenge.rw_pileports_k51_whole_wishes_are_met) (q := view (OpenLaw.row PySem.Challenge.rw_pileports_k51_whole_wishes_are_met).prog [90]) (H := Pp.hookP) (ob := Pp.obP) (M := 9000) (loose := Pp.looseN) (d := HandSHeadRun.topDef (OpenLaw.row PySem.Challenge.rw_pileports_k51_whole_wishes_are_met).prog 90) (kwd := []) Pp.obP_eq
    (by kernel_rfl) (fun s => by kernel_rfl) Pp.run (by kernel_rfl) (by kernel_rfl) (by kernel_rfl) (by rfl) (by first | assumption | decide +kernel) (by decide +kernel) ⟨rfl, rfl, rfl, rfl, rfl, by decide +kernel⟩ ?hw ?hc
  case hw => w_witness2
  case hc =>
    refine L2.walk_ofE (l := PySem.Challenge.rw_pileports_k51_whole_wishes_are_met) (n := 63) (k := 14) (x := "_law_script") (CX := L2.CX0) rfl (by decide) (by kernel_rfl) ⟨rfl, by decide, by decide⟩ ?F (fun _ _ _ _ z => z)
    intro w mg fa h Y G hmg0
    obtain ⟨K, KX, c⟩ := Y
    have hmg : mg ("law" : PySem.Str) = some (.ref fa) := by
      have e : (HandSHeadRun.topDef (OpenLaw.row PySem.Challenge.rw_pileports_k51_whole_wishes_are_met).prog 90).name = ("law" : PySem.Str) := by kernel_rfl
      rw [← e]
      exact hmg0
    obtain ⟨fd, hb, hF⟩ := Pp.facts Pp.math (P := (PySem.Challenge.rw_pileports_k51_whole_wishes_are_met).prog) (w := w) KX G hmg c
    exact ⟨K, fd, Pp.sp_law (K := K), KX, hb, fun H a ns hl _ hS => ⟨a, ns, rfl, hS, fun _ => rfl⟩, hF⟩
