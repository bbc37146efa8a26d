import PyProof.Rows.All
import Wide.All
import OpenK.AllK
import Wide.FinOn
import KE.KSuper
import KE.KCallOwn
import PyProof.StrOps2
import HandS.ForMost
import HandS.More
import HandS.Exc
import HandS.Defaults
import HandS.MakeKwOnly
import HandS.Slots
import HandS.SlotsOwn
import HandS.Star
import HandS.ClsMeth
import HandS.Nested
import HandS.FStr
import HandS.StrMore
import HandS.Codes
import HandS.IsInst
import PySem.Challenge.RW_hopkeep_k13_whole_checks_tell_versions
import HandS.HeadHook1
import HandS.HeadHook2
import HandS.HeadNt
import HandS.Head0
import HandS.Walk
import PyProof.P3Eq
import KE.KStateDown
import Lean
import HandS.Head1
import HandS.Head2
import HandS.HeadEnd
set_option Elab.async false
set_option linter.all false
set_option maxRecDepth 100000
set_option maxHeartbeats 4000000
/-! rules of my own over the hand layer -/
namespace K13
open PySem PySem.Spec PyProof.Rows L2

/-! ### a def of the module by its positional promise -/
def tFn (sp : Sp) (E : XK) (t : TA) : TE := fun σ H Q => t σ H fun vs H1 => sp vs H1 Q E
def tSM (C : Addr) (sp : Sp) (E : XK) (ta : TE) (t : TA) : TE := fun σ H Q => ta σ H fun y H1 => y = .ref C ∧ t σ H1 fun vs H2 => sp vs H2 Q E
section
variable {X : Cx} {CX : CXT} {k : Nat} {f C p g : Addr} {sp : Sp} {E : XK} {x m : Str} {np pos apos : Pos} {o e : Expr} {es : List Expr} {ta : TE} {t tk : TA} {pl : Sem Bool}
theorem pe_callR (F : FnR X.prog X.w X.K X.mg X.base CX k f sp) (hr : Room k X.A) (hg : Gl X x) (hm : X.mg x = some (.ref f)) (hk : PySem.W.keepIn X.K (.ref f) = true) (hx : Passes CX X E) (ha : PA X (e :: es) t)
    (hdb : (x == ("__debug__" : Str)) = false := by decide) (he : starEach (e :: es) X.env = (false, eval e X.env) :: starEach es X.env := by rfl) (hpl : (backTo pos (starEach es X.env)).any (·.1) = false := by rfl) :
    PE X (.Call (.Name x np) (e :: es) [] pos) (tFn sp E t) := by
  refine ⟨fun pins s σ H Q I h => ?_⟩
  refine wpAny_Call_Name_kw (ld_glob I hg hm ?_ hdb)
  refine PySem.W.callWith_K (h₀ := X.base) I.ok.mod.kin hk (thn (ha.run pos pins s σ H _ I h) fun us s1 ⟨vs, H1, I1, r, q⟩ => ⟨I1.kIn, ?_⟩) he hpl
  exact wpAny_call (run_fnR F hr hx I1 r q)

/-! ### a staticmethod through its class -/
structure SMet (K : PySem.W.Frag) (C : Addr) (m : Str) (p g : Addr) : Prop where
  at_ : PySem.W.findCls K (.ref C) (.type "type") m = some (.get (.builtin "staticmethod.__get__") (.ref p) .none (.ref C))
  rc : ∃ rest, PySem.W.recIn K p "staticmethod" = some (.ref g :: rest)
  kp : PySem.W.keepIn K (.ref g) = true
theorem getsm_ok {pins : List (Addr × Obj)} {σ : L2.St} {H : Hp} {s : Shared} {A : Around} {E : Value → Shared → Prop} {Q : Value × List Value → Shared → Prop} (I : Inv X pins σ H s) (r : ClX.CRead X.K C (.type "type")) (c : SMet X.K C m p g)
    (h : ∀ s', Inv X pins σ H s' → Q (.ref g, []) s') : wpAny (model X.prog X.w) A (getMethod (.ref C) m pl) Q E s := by
  obtain ⟨rest, hp⟩ := c.rc
  refine PySem.W.method_cls I.kIn r.ga ?_
  refine PySem.W.cls_bind I.kIn r.rd c.at_ ?_
  refine wpAny_call (PySem.W.sm_get (s := { s with toks := s.toks + 1 }) I.kIn hp (PySem.W.handed_on rfl ?_))
  exact h _ (I.tok _)
theorem pe_smeth (he : PE X o ta) (r : ClX.CRead X.K C (.type "type")) (c : SMet X.K C m p g) (F : FnR X.prog X.w X.K X.mg X.base CX k g sp) (hr : Room k X.A) (hx : Passes CX X E) (ha : PA X (e :: es) t)
    (hst : starEach (e :: es) X.env = (false, eval e X.env) :: starEach es X.env := by rfl) (hpl : (backTo pos (starEach es X.env)).any (·.1) = false := by rfl)
    (ht : eval (.Call (.Attribute o m apos) (e :: es) [] pos) X.env = (do
      let ov ← eval o X.env
      standAt apos.atName
      let (f, first) ← holding [ov] (getMethod ov m pl)
      callWith pos f first (backTo pos (starEach (e :: es) X.env)) (backToKw pos (keywordEach [] X.env))) := by rfl) :
    PE X (.Call (.Attribute o m apos) (e :: es) [] pos) (tSM C sp E ta t) := by
  refine ⟨fun pins s σ H Q I h => ?_⟩
  refine PySem.W.methodCall_KW (pl := pl) (thn (he.run pins s σ H _ I h) fun u s1 ⟨y, H1, I1, rx, ex, q⟩ => ?_) ht
  subst ex
  obtain rfl : u = Value.ref C := rx
  refine getsm_ok I1 r c fun s2 I2 => ?_
  refine PySem.W.callWith_K (h₀ := X.base) I2.ok.mod.kin c.kp (thn (ha.run pos pins s2 σ H1 _ I2 q) fun us s3 ⟨vs, H2, I3, rv, q2⟩ => ⟨I3.kIn, ?_⟩) hst hpl
  exact wpAny_call (run_fnR F hr hx I3 rv q2)
end

/-! ### a class in a local name, made with keywords -/
section
variable {X : Cx} {CX : CXT} {k n i : Nat} {f C : Addr} {fd : FuncData} {ps ks : List Str} {sp : Sp} {E : XK} {x : Str} {p pos : Pos} {e : Expr} {es : List Expr} {kws : List Keyword} {t tk : TA} {g : List Value → List Value → List Value} {gV : List V → List V → List V}
theorem pe_makeKL (M : Mk X.K C f) (F : FnOk X.prog X.w X.K X.mg X.base CX k f fd ps sp) (hr : Room (k + 1) X.A) (hb : KBn X.K fd ps (n + 1) ks g gV) (hx : Passes CX X E) (ha : PA X (e :: es) t) (hkw : PK X kws tk)
    (hN : X.N[i]? = some x) (hv : Vis X.env.scope x)
    (hall : (backToKw pos (keywordEach kws X.env)).all (·.1.isSome) = true := by rfl) (hks : (backToKw pos (keywordEach kws X.env)).filterMap (·.1) = ks := by rfl) (hdb : (x == ("__debug__" : Str)) = false := by decide) (hcd : (x == ("__classdict__" : Str)) = false := by decide)
    (he : starEach (e :: es) X.env = (false, eval e X.env) :: starEach es X.env := by rfl) (hpl : ((backTo pos (starEach (e :: es) X.env)).any (·.1) || (backToKw pos (keywordEach kws X.env)).any (·.1.isNone)) = false := by rfl) :
    PE X (.Call (.Name x p) (e :: es) kws pos) (fun σ H Q => σ[i]? = some (some (.ref C)) ∧ tMakeK C n ks.length sp gV E t tk σ H Q) := by
  refine ⟨fun pins s σ H Q I h => ?_⟩
  obtain ⟨hs, h⟩ := h
  refine wpAny_Call_Name_kw (thn ((pe_var (pos := p) hN hv hdb hcd).run pins s σ H (fun v H1 => v = .ref C ∧ H1 = H) I ⟨.ref C, hs, rfl, rfl⟩) fun u s1 ⟨v, H1, I1, r1, q1⟩ => ?_)
  obtain ⟨rfl, rfl⟩ := q1
  cases r1
  refine PySem.W.callWith_KW (h₀ := X.base) I.ok.mod.kin M.kp hall (thn (ha.run pos pins s1 σ _ _ I1 h) fun us s1 ⟨vs, H1, I1, r, q⟩ => ?_) hpl he
  refine thn (hkw.run pos pins s1 σ H1 _ I1 q) fun ws s2 ⟨zs, H2, I2, rz, l1, l2, q2⟩ => ⟨I2.kIn, ?_⟩
  rw [hks]
  exact run_makeK M F hr hb hx I2 r rz l1 l2 q2
end

/-! ### str of an own instance -/
section
variable {X : Cx} {CX : CXT} {n : Nat} {g C : Addr} {sp : Sp} {E : XK}
def rStrOwn (C : Addr) (sp : Sp) (E : XK) : List V → Hp → VK → Prop := fun xs H Q => ∃ a dx fs, xs = [V.ref a] ∧ H a = some (.ins C dx fs) ∧ sp [.ref a] H (fun z H' => ∃ y, z = .str y ∧ Q z H') E
theorem call_strOwn (hs : PySem.W.findIn X.K (.ref C) "__str__" = some (some (.ref g))) (hf : PySem.W.isFn X.K (.ref g) = true) (F : FnR X.prog X.w X.K X.mg X.base CX n g sp) (hr : Room (n + 2) X.A) (hx : Passes CX X E) : CallR X (.type "str") (rStrOwn C sp E) := by
  intro pins s σ H xs us Q I r h
  obtain ⟨a, dx, fs, rfl, ha, q⟩ := h
  obtain ⟨u, rfl, ru⟩ := r.one
  cases (show u = Value.ref a from ru)
  obtain ⟨mA, O, rr, _, _, _⟩ := ins_get I.hok ha
  obtain ⟨od, J, hl⟩ := O.look
  have hr2 : Room n X.A.in1.in1 := (show Room (n + 1) X.A.in1 from Room.in1 hr).in1
  refine PySem.W.kso_call hr2.units0 I.kIn J hs hf (wpAny_mono (wpAny_call (SlX.run_at (us := [.ref a]) (ws := [.ref a]) F hr2 I.env0.in1.in1 hx I (.cons rfl .nil) q)) (fun w s' z => ?_) fun _ _ x => x)
  obtain ⟨z', H', I', rz, y, ey, qz⟩ := z
  subst ey
  obtain ⟨t, e⟩ := (show ∃ t, w = Value.str y t from rz)
  cases e
  exact ⟨.str y, H', I', ⟨t, rfl⟩, qz⟩
end

/-! ### a text n times -/
section
variable {X : Cx}
theorem op_mulS : OpR X (binaryOp .Mult) (fun x y H Q => ∃ (c k : Nat), x = .str ⟨#[c]⟩ ∧ y = .int (k : Int) ∧ 1 ≤ k ∧ k ≤ 1000 ∧ Q (.str ⟨(List.replicate k c).toArray⟩) H) := by
  intro pins s σ H x y v u Q I rx ry h
  obtain ⟨c, k, rfl, rfl, h1, h2, q⟩ := h
  obtain ⟨t, rfl⟩ := rx
  obtain ⟨t', rfl⟩ := ry
  have key : ∀ (k : Nat) (acc : Array Nat), (List.replicate k (#[c] : Array Nat)).foldl (· ++ ·) acc = acc ++ (List.replicate k c).toArray := by
    intro k
    induction k with
    | zero => intro acc; simp
    | succ k ih =>
      intro acc
      rw [List.replicate_succ, List.foldl_cons, ih, List.replicate_succ]
      apply Array.ext'
      simp
  refine PySem.P.mul_str (by simp; omega) (fun _ _ => ?_) (fun _ _ => ?_) ?_
  · have e1 : ((⟨#[c]⟩ : Str).length : Int) = 1 := rfl
    rw [e1]
    have : (1 : Int) ≤ (2 ^ 63 - 1) / (k : Int) := by
      have hk : (0 : Int) < (k : Int) := by omega
      rw [Int.le_ediv_iff_mul_le hk]
      omega
    omega
  · have e1 : (⟨#[c]⟩ : Str).length = 1 := rfl
    rw [e1]
    unfold Builtin.Str.tooLong
    rw [sizeLine_eq]
    simp
    omega
  · rw [if_neg (by omega)]
    by_cases hk : k = 1
    · subst hk
      exact ⟨.str ⟨#[c]⟩, H, I, ⟨t, rfl⟩, q⟩
    · have e2 : (((k : Int) == 1) || (⟨#[c]⟩ : Str).length == 0) = false := by
        have : ((k : Int) == 1) = false := by
          rw [beq_eq_false_iff_ne]
          omega
        rw [this]
        rfl
      rw [e2]
      have e3 : (List.replicate ((k : Int)).toNat (#[c] : Array Nat)).foldl (· ++ ·) #[] = (List.replicate k c).toArray := by
        rw [Int.toNat_natCast, key]
        simp
      refine ⟨?_, ⟨.str ⟨(List.replicate k c).toArray⟩, H, I.tok _, ⟨s.toks, ?_⟩, q⟩⟩
      · show Str.length ⟨(List.replicate ((k : Int)).toNat (#[c] : Array Nat)).foldl (· ++ ·) #[]⟩ ≤ sizeLine
        rw [e3]
        show (List.replicate k c).toArray.size ≤ sizeLine
        rw [sizeLine_eq]
        simp
        omega
      · exact congrArg (fun a => Value.str ⟨a⟩ _) e3
/-- a text without what is to be replaced -/
theorem mt_replace0 : MtR X "str.replace" (fun x xs H Q => ∃ a y z : Str, x = .str a ∧ xs = [.str y, .str z] ∧ (Builtin.Str.occurrences a y 0 a.length (a.length + 1)).isEmpty = true ∧ Q (.str a) H) := by
  intro pins s σ H x xs v us Q I rx rs h
  obtain ⟨a, y, z, rfl, rfl, ho, q⟩ := h
  obtain ⟨t, rfl⟩ := rx
  obtain ⟨u1, u2, rfl, r1, r2⟩ := vals2 rs
  obtain ⟨t1, rfl⟩ := r1
  obtain ⟨t2, rfl⟩ := r2
  refine call_gives F.slot_str_replace (typeIs_str _ _ _) F.entry_str_replace (F.args_str_replace_3 _ _ _) (gives_str_replace a y z t t1 t2 fun hc => ?_) ?_
  · rw [ho] at hc
    cases hc
  · rw [ho]
    exact ⟨.str a, H, I, ⟨t, rfl⟩, q⟩
end
end K13

set_option Elab.async false
set_option linter.all false
set_option maxRecDepth 100000
set_option maxHeartbeats 4000000
/-! super().__init__(a, b) of an own class, as the last statement of a def -/
namespace K13
open PySem PySem.Spec PyProof.Rows L2

/-- what the written part holds of super() in the def at f: its class cell, its code object, the method that is reached -/
structure SupF (P : Program) (K : PySem.W.Frag) (mg : Str → Option Value) (C D : Addr) (m : Str) (f2 cc cda : Addr) : Prop where
  cell : ∃ cl cld csl, K.lookup cc = some ⟨cl, cld, .cell (some (.ref D)), csl⟩
  code : ∃ ccl cdd ccs vs file tf, K.lookup cda = some ⟨ccl, cdd, .fields vs, ccs⟩ ∧ vs[2]? = some (.str file tf) ∧ ((P.main.file : Str) == file) = true
  top : (P.main.scope.names.lookup ("super" : Str)).isSome = false
  clsD : (PySem.W.clsIn K D).isSome = true
  sub : PySem.W.mroIn K C (.ref D) = some true
  nsup : mg "super" = Option.none
  stat : PySem.W.nsIn K cStatics "thirdparty.any" = some none
  find : PySem.W.ks_superIn K C D m = some (some (.ref f2))
  typ : PySem.W.typeIn K (.ref f2) = some (.type "function")
  fi : PySem.W.fnIn K f2 = true

section
variable {X : Cx} {CX : CXT} {k i : Nat} {C D f f2 cc cda : Addr} {m x0 : Str} {sp : Sp} {E : XK} {fd : FuncData} {body : List Stmt} {e : Expr} {es : List Expr} {t : TA} {p0 p1 apos cpos epos : Pos} {ar : Arg}

theorem boot_super : bootBuiltins "super" = some (.type "super") := by first | exact PyProof.Rows.boot_super | decide +kernel | kernel_rfl

/-- the statement super().m(e, ..), by the code that runs -/
theorem at_super (S : SupF X.prog X.K X.mg C D m f2 cc cda) (hf : X.env.func = some f) (hcode : X.env.code = .ref cda) (lk : ∃ oc od osl, X.K.lookup f = some ⟨oc, od, .func fd, osl⟩)
    (hp : (fd.params.posonlyargs ++ fd.params.args).head? = some ar) (hN : X.N[i]? = some ar.arg) (hka : X.env.kindOf ar.arg = some .local)
    (hks : X.env.kindOf "super" = some .globalImplicit) (hkc : X.env.kindOf "__class__" = some .free) (hcc : X.env.cells.lookup ("__class__" : Str) = some cc) (hm : (m == ("__class__" : Str)) = false)
    (F : FnR X.prog X.w X.K X.mg X.base CX k f2 sp) (hr : Room k X.A) (hx : Passes CX X E) (ha : PA X (e :: es) t)
    (he : starEach (e :: es) X.env = (false, eval e X.env) :: starEach es X.env) (hpl : (backTo cpos (starEach es X.env)).any (·.1) = false)
    (hform : ∃ pl : Sem Bool, eval (.Call (.Attribute (.Call (.Name "super" p0) [] [] p1) m apos) (e :: es) [] cpos) X.env = (do
      let ov ← attributeBase (.Call (.Name "super" p0) [] [] p1) m X.env (eval (.Call (.Name "super" p0) [] [] p1) X.env)
      standAt apos.atName
      let (f, first) ← holding [ov] (getMethod ov m pl)
      callWith cpos f first (backTo cpos (starEach (e :: es) X.env)) []))
    {pins : List (Addr × Obj)} {s : Shared} {σ : L2.St} {H : Hp} {Q : VK} (I : Inv X pins σ H s) {a dx : Addr} {fs : List (Str × V)} (hσ : σ[i]? = some (some (.ref a))) (hI : H a = some (.ins C dx fs))
    (h : t σ H fun vs H1 => sp (.ref a :: vs) H1 Q E) :
    _root_.PySem.wpAt (model X.prog X.w) X.A (.func body X.env) (eval (.Call (.Attribute (.Call (.Name "super" p0) [] [] p1) m apos) (e :: es) [] cpos) X.env) (EP X pins σ Q) X.xe s := by
  obtain ⟨pl, ht⟩ := hform
  refine ks_wpAt_MethodCall (pl := pl) ?_ ht
  obtain ⟨oc, od, osl, lk⟩ := lk
  obtain ⟨cl, cld, csl, hcell⟩ := S.cell
  obtain ⟨ccl, cdd, ccs, vs, file, tf, hcd, hvs, hfile⟩ := S.code
  obtain ⟨cdD, hD⟩ := Option.isSome_iff_exists.mp S.clsD
  have KX : X.K.In s.heap := I.kIn
  obtain ⟨oD, hD1, hD2⟩ : ∃ oD, s.heap.get? D = some oD ∧ oD.data = .cls cdD := by
    unfold PySem.W.clsIn at hD
    split at hD
    · rename_i c d cd' sl ho
      cases hD
      exact ⟨_, KX _ _ ho, rfl⟩
    · cases hD
  obtain ⟨mA, O, _⟩ := ins_get I.hok hI
  obtain ⟨odx, J, _⟩ := O.look
  obtain ⟨hh, g, d, tk, os⟩ := s
  refine ks_wpAt_super_base (env := X.env) hks hkc hm hf (KX _ _ lk) rfl hp hcode (KX _ _ hcd) rfl hvs hfile S.top ?_
  obtain ⟨mb, hb1, hb2⟩ := I.mod.blt
  refine PySem.W.ks_loadName_global I.ok.kind hks (Calls.loadGlobal_builtin (by rw [I.ok.glob]; exact I.mod.glob.keeps I.bk) S.nsup (by rw [I.ok.blt]; exact hb1.keeps I.bk) ((hb2 _ (by decide)).trans boot_super) ⟨rfl, ?_⟩)
  refine wpAny_loadName_free I.ok.kind hkc hcc ⟨_, KX _ _ hcell, rfl⟩ ?_
  obtain ⟨mL, hn, hl⟩ := I.loc
  obtain ⟨u, ru, lu⟩ := hl i ar.arg (.ref a) hN hσ (.inl hka)
  obtain rfl : u = Value.ref a := ru
  have hv : mL ar.arg = some (.ref a) := by
    rcases lu with ⟨_, z⟩ | ⟨z, _⟩
    · exact z
    · rw [hka] at z
      rcases z with z | z <;> cases z
  refine wpAny_loadName_local I.ok.kind hka hn hv ?_
  refine ks_wpAny_isType_cls hD1 hD2 ⟨rfl, ?_⟩
  refine ks_wpAny_call_super hD1 hD2 J.at_ J.cls (fun c e => ?_) (PySem.W.looks_mroIn KX S.sub) (fun h' eo kp => ?_)
  · have := J.no
    unfold PySem.W.notCls at this
    rw [e] at this
    exact Bool.noConfusion this
  have I1 : Inv X ((hh.objs.size, PySem.W.ks_superObj D a C) :: pins) σ H ⟨h', g, d, tk, os⟩ := ClX.pin_new (t' := tk) I kp (Nat.le_refl _) eo fun v z => nomatch z
  have KX1 : X.K.In h' := I1.kIn
  have J1 : PySem.W.InstAt h' a (PySem.W.instObj C dx) C (some odx) := by
    obtain ⟨mA1, O1, _⟩ := ins_get I1.hok hI
    obtain ⟨odx1, J1, _⟩ := O1.look
    exact ⟨J1.at_, J1.cls, J1.no, by
      have e0 := J.dict
      have e1 := J1.dict
      exact kp _ _ e0⟩
  have hfind := S.find
  have hstat := S.stat
  have htyp := S.typ
  cases hc : PySem.W.clsIn X.K C with
  | none =>
    unfold PySem.W.ks_superIn at hfind
    rw [hc] at hfind
    cases hfind
  | some cd =>
    unfold PySem.W.ks_superIn at hfind
    rw [hc] at hfind
    obtain ⟨of, hof, hofc⟩ : ∃ of, h'.get? f2 = some of ∧ of.cls = .type "function" := by
      have ht' : (X.K.lookup f2).map (·.cls) = some (.type "function") := htyp
      cases z : X.K.lookup f2 with
      | none => rw [z] at ht'; cases ht'
      | some of => rw [z] at ht'; exact ⟨of, KX1 _ _ z, Option.some.inj ht'⟩
    refine ks_wpAny_getMethod_super eo (PySem.W.looks_opaque KX1 hstat) (l₀ := cd.mro) (fun A Q E s k q => wpAny_bind ((PySem.W.looks_clsIn KX1 hc) A _ E s k (wpAny_pure q))) rfl KX1 hfind hof hofc (PySem.W.ks_ne KX1 J1 hc) hm ?_
    have I2 : Inv X ((h'.objs.size, PySem.W.methodObj (.ref f2) (.ref a)) :: (hh.objs.size, PySem.W.ks_superObj D a C) :: pins) σ H ⟨h'.push (PySem.W.methodObj (.ref f2) (.ref a)), g, d, tk + 1, os⟩ :=
      ClX.pin_new (s := ⟨h', g, d, tk, os⟩) (t' := tk + 1) I1 (fun _ _ z => Heap.get?_push_of_some _ z) (Nat.le_refl _) (Heap.get?_push_size h' rfl) (fun v z => nomatch z)
    refine ClX.callwith_cm (g := f2) (C := a) I2 (ClX.base_none I1 (Nat.le_refl _)) S.fi (thn (ha.run cpos _ _ σ H _ I2 h) fun us s3 ⟨vs, H2, I3, rv, q2⟩ => ⟨⟨ClX.pin_at I3, I3.kIn⟩, ?_⟩) he hpl
    exact thn (ClX.run_cm (C := a) (g := f2) F hr hx I3 rv q2) fun _ _ y => ClX.unpinE y
end
end K13

set_option Elab.async false
set_option linter.all false
set_option maxRecDepth 100000
set_option maxHeartbeats 4000000
/-! a def whose last statement is super().m(..) -/
namespace K13
open PySem PySem.Spec PyProof.Rows L2 NdefX

theorem execs_app (env : Env) (last : List Stmt) : ∀ pre : List Stmt, execs (pre ++ last) env = (execs pre env >>= fun fl => match fl with | .next => execs last env | f => pure f)
  | [] => by
    rw [List.nil_append, execs_nil, pure_bind]
  | st :: pre => by
    rw [List.cons_append, execs_cons, execs_cons, bind_assoc]
    congr 1
    funext fl
    cases fl with
    | next => exact execs_app env last pre
    | brk => rw [pure_bind]
    | cont => rw [pure_bind]
    | ret v => rw [pure_bind]

/-- the cells that such a def has captured -/
theorem cells_one {P : Program} {w : World} {K : PySem.W.Frag} {mg : Str → Option Value} {base : Heap} {A : Around} {outer : List Env} {s : Shared} {H : Hp} {cc : Addr} (e0 : Env0 P w K mg base A outer s H)
    (h : ∃ cl cld v csl, K.lookup cc = some ⟨cl, cld, .cell v, csl⟩) : CellsAt [("__class__", cc)] ["__class__"] [none] s.heap H := by
  obtain ⟨cl, cld, v, csl, hc⟩ := h
  have hb := e0.bs _ _ (e0.mod.kin _ _ hc)
  have look : ∀ (y : Str) (c : Addr), ([(("__class__" : Str), cc)] : List (Str × Addr)).lookup y = some c → c = cc ∧ y = "__class__" := fun y c e => by
    have e2 : (match y == ("__class__" : Str) with | true => some cc | false => none) = some c := e
    cases q : (y == ("__class__" : Str)) with
    | true =>
      rw [q] at e2
      exact ⟨(Option.some.inj e2).symm, beq_iff_eq.mp q⟩
    | false =>
      rw [q] at e2
      cases e2
  refine ⟨rfl, fun y c e => ?_, fun x y c e1 e2 => (look x c e1).2.trans (look y c e2).2.symm, fun i y hi => ?_⟩
  · obtain ⟨rfl, _⟩ := look y c e
    exact ⟨hb.2, v, _, hb.1, rfl⟩
  · cases i with
    | zero =>
      have : y = "__class__" := (Option.some.inj hi).symm
      subst this
      refine ⟨cc, ?_, fun v hv => ?_⟩
      · show (match ("__class__" : Str) == ("__class__" : Str) with | true => some cc | false => none) = some cc
        rw [beq_self_eq_true]
      · cases hv
    | succ i => cases hi

section
variable {P : Program} {w : World} {K : PySem.W.Frag} {mg : Str → Option Value} {base : Heap} {k : Nat} {f C D f2 cc cda : Addr} {name qual m : Str} {params : Arguments} {body pre : List Stmt} {scope : Scope} {dV kV doc pm ct oc : Value} {an od : Option Addr}
  {osl : Array (Option Value)} {N ps : List Str} {sp sp2 : Sp} {e : Expr} {es : List Expr} {p0 p1 apos cpos epos : Pos} {ar : Arg}
theorem fn_sup (lk : K.lookup f = some ⟨oc, od, .func (PySem.W.fnX name qual params body scope [("__class__", cc)] dV kV doc pm an (.ref cda) ct), osl⟩) (hcd : PySem.W.codeIn K (.ref cda) qual = true) (S : NScope N ps ["__class__"] scope)
    (F2 : SupF P K mg C D m f2 cc cda) (hbd : body = pre ++ [.Expr (.Call (.Attribute (.Call (.Name "super" p0) [] [] p1) m apos) (e :: es) [] cpos) epos])
    (hp : (params.posonlyargs ++ params.args).head? = some ar) (hN : N[0]? = some ar.arg) (hka : scope.names.lookup ar.arg = some .local)
    (hks : scope.names.lookup ("super" : Str) = some .globalImplicit) (hkc : scope.names.lookup ("__class__" : Str) = some .free) (hm : (m == ("__class__" : Str)) = false)
    (F : FnR P w K mg base CX0 k f2 sp2) (len : ∀ vs H Q E, sp vs H Q E → vs.length = ps.length)
    (hform : ∀ env : Env, env.scope = scope → starEach (e :: es) env = (false, eval e env) :: starEach es env ∧ (backTo cpos (starEach es env)).any (·.1) = false ∧
      swapsWith (.Call (.Attribute (.Call (.Name "super" p0) [] [] p1) m apos) (e :: es) [] cpos) none epos.line env = pure false ∧
      ∃ pl : Sem Bool, eval (.Call (.Attribute (.Call (.Name "super" p0) [] [] p1) m apos) (e :: es) [] cpos) env = (do
      let ov ← attributeBase (.Call (.Name "super" p0) [] [] p1) m env (eval (.Call (.Name "super" p0) [] [] p1) env)
      standAt apos.atName
      let (f, first) ← holding [ov] (getMethod ov m pl)
      callWith cpos f first (backTo cpos (starEach (e :: es) env)) []))
    (hbody : ∀ (A : Around) (outer : List Env) (s : Shared) (H : Hp) (vs : List V) (Q : VK) (E : XK), Room k (A.deeper (envF ⟨name, qual, params, body, scope, [("__class__", cc)], cda⟩ f s.heap.objs.size)) → sp vs H Q E →
      ∃ t ta, PSs (ncx CX0 P w K mg base N ⟨name, qual, params, body, scope, [("__class__", cc)], cda⟩ f A outer s H E).nox pre t ∧
        PA (ncx CX0 P w K mg base N ⟨name, qual, params, body, scope, [("__class__", cc)], cda⟩ f A outer s H E) (e :: es) ta ∧
        t { nx := fun σ' H' => ∃ a dx fs, σ'[0]? = some (some (.ref a)) ∧ H' a = some (.ins C dx fs) ∧ ta σ' H' fun ws H1 => sp2 (.ref a :: ws) H1 (fun _ H2 => Q .non H2) E0, rt := fun _ _ => False } (startF N vs [none]) H) :
    FnOk P w K mg base CX0 (k + 1) f (PySem.W.fnX name qual params body scope [("__class__", cc)] dV kV doc pm an (.ref cda) ct) ps sp := by
  refine ⟨len, fun A outer s H args us vs Q E hr e0 hb r hsp => ?_⟩
  have hl := len _ _ _ _ hsp
  have KX : K.In s.heap := e0.mod.kin.keeps fun b o e => (e0.bs b o e).1
  have lim : s.heap.NoLimit := e0.mod.nolimit.keeps fun b o e => (e0.bs b o e).1
  have hcell : ∃ cl cld v csl, K.lookup cc = some ⟨cl, cld, .cell v, csl⟩ := let ⟨cl, cld, csl, q⟩ := F2.cell; ⟨cl, cld, _, csl, q⟩
  refine ks_codeAny_call_defAt (fd := PySem.W.fnX name qual params body scope [("__class__", cc)] dV kV doc pm an (.ref cda) ct) (body := body) (binds := ps.zip us) hr.depth (KX _ _ lk) rfl lim (PySem.W.codeRec_of KX hcd) rfl hb S.nocell (fun ⟨n, _⟩ hy => S.par n (List.of_mem_zip hy).1) (fun h₁ hns hk₁ => ?_) S.co S.gen S.kind
  have I : Inv (ncx CX0 P w K mg base N ⟨name, qual, params, body, scope, [("__class__", cc)], cda⟩ f A outer s H E) [] (startF N vs [none]) H { s with heap := h₁, toks := s.toks + (ps.zip us).length } :=
    inv_startN (F := ⟨name, qual, params, body, scope, [("__class__", cc)], cda⟩) S hr.hd e0 hl r (cells_one e0 hcell) hns hk₁
  obtain ⟨t, ta, hpre, hpa, hq⟩ := hbody A outer s H vs Q E (hr.deeper _) hsp
  have fin : ∀ {σ' : L2.St} {H' : Hp} {v : V} {u : Value} {s' : Shared}, Inv (ncx CX0 P w K mg base N ⟨name, qual, params, body, scope, [("__class__", cc)], cda⟩ f A outer s H E) [] σ' H' s' → L2.RelV v u → Q v H' → CE outer P w H s Q u s' :=
    fun {σ' H' v u s'} J rv q => ⟨v, H', J.os, J.bare, J.base, J.hok, rv, q⟩
  show _root_.PySem.wpAt (model P w) (A.deeper (envF ⟨name, qual, params, body, scope, [("__class__", cc)], cda⟩ f s.heap.objs.size)) (.func body (envF ⟨name, qual, params, body, scope, [("__class__", cc)], cda⟩ f s.heap.objs.size))
    (execs body (envF ⟨name, qual, params, body, scope, [("__class__", cc)], cda⟩ f s.heap.objs.size)) _ _ _
  have hexe : execs body (envF ⟨name, qual, params, body, scope, [("__class__", cc)], cda⟩ f s.heap.objs.size) = _ := (congrArg (fun b => execs b (envF ⟨name, qual, params, body, scope, [("__class__", cc)], cda⟩ f s.heap.objs.size)) hbd).trans (execs_app _ _ pre)
  rw [hexe]
  refine _root_.PySem.wpAt_bind (_root_.PySem.wpAt_of_wpAny (wpAny_mono (hpre.run [] _ _ _ _ (I.wish _) hq) (fun fl s1 hs => ?_) fun e s' z => False.elim z))
  cases fl with
  | next =>
    obtain ⟨σ', H', J', a, dx, fs, hσ, hH, q⟩ := hs
    have J := J'.unwish
    obtain ⟨h1, h2, h3, h4⟩ := hform (envF ⟨name, qual, params, body, scope, [("__class__", cc)], cda⟩ f s.heap.objs.size) rfl
    refine ks_wpAt_execs_cons (ks_wpAt_Expr_any ?_ J.quiet h3)
    refine ks_wpAt_mono (at_super (X := ncx CX0 P w K mg base N ⟨name, qual, params, body, scope, [("__class__", cc)], cda⟩ f A outer s H E) (i := 0) F2 rfl rfl ⟨_, _, _, lk⟩ hp hN hka hks hkc ?_ hm F (hr.deeper _) pass0 hpa h1 h2 h4 J hσ hH q) (fun v s2 z => ?_) fun _ _ z => z
    · show (match ("__class__" : Str) == ("__class__" : Str) with | true => some cc | false => none) = some cc
      rw [beq_self_eq_true]
    · obtain ⟨y, H2, J2, _, q2⟩ := z
      exact _root_.PySem.wpAt_of_wpAny (wpAny_execs_nil (fin J2 (v := V.non) (u := Value.none) rfl q2))
  | ret v =>
    obtain ⟨_, _, _, _, _, q⟩ := hs
    exact False.elim q
  | brk =>
    obtain ⟨_, _, _, q⟩ := hs
    exact False.elim q
  | cont =>
    obtain ⟨_, _, _, q⟩ := hs
    exact False.elim q
end
end K13

set_option Elab.async false
set_option linter.all false
set_option maxRecDepth 100000
set_option maxHeartbeats 4000000
/-! the text by places; what the written part holds of it -/
namespace K13
open PySem PySem.Spec PyProof.Rows L2
abbrev PP : Program := PySem.Challenge.pw_hopkeep_k13_whole_checks_tell_versions
def top (i : Nat) : Stmt := PySem.Challenge.pw_hopkeep_k13_whole_checks_tell_versions.main.body.getD i (.Pass ⟨0, 0, 0, 0⟩)
/-! ### the defs' statements -/
abbrev s_is_plain_sign : Stmt := top 16
abbrev s_is_plain : Stmt := top 17
abbrev s_consists_of : Stmt := top 18
abbrev s_is_path : Stmt := top 19
abbrev s_is_field_name : Stmt := top 20
abbrev s_is_value : Stmt := top 21
abbrev s_list_elements : Stmt := top 22
abbrev s_read_number : Stmt := top 23
abbrev s_read_reading : Stmt := top 24
abbrev s_is_mark_text : Stmt := top 29
abbrev s_settled : Stmt := top 32
abbrev s_optional_marks : Stmt := top 35
abbrev s_optional_reading : Stmt := top 36
abbrev s_without_own : Stmt := top 38
abbrev s_checking : Stmt := top 39
abbrev s_is_body_text : Stmt := top 41
abbrev s_law_bag : Stmt := top 45
abbrev s_law_take : Stmt := top 46
abbrev s_law_letter : Stmt := top 47
abbrev s_law_truth : Stmt := top 48
abbrev s_law_text : Stmt := top 49
abbrev s_law_world : Stmt := top 50
abbrev s_law_shown : Stmt := top 51
abbrev s_law_is_settled : Stmt := top 52
abbrev s_law_grow : Stmt := top 53
abbrev s_law_step : Stmt := top 54
abbrev s_law_tag : Stmt := top 55
abbrev s_law_note : Stmt := top 56
abbrev s_law_unchanged : Stmt := top 57
abbrev s_law_due : Stmt := top 58
abbrev s_law_checks : Stmt := top 59
abbrev s_law_truth_of_settled : Stmt := top 60
abbrev s_law_fields : Stmt := top 61
abbrev s_law_stay : Stmt := top 62
abbrev s_law : Stmt := top 63
abbrev s_Mark_init : Stmt := inClass (top 30) 0
abbrev s_Mark_weakly : Stmt := inClass (top 30) 3
abbrev s_Mark_str : Stmt := inClass (top 30) 5
abbrev s_MarkList_init : Stmt := inClass (top 31) 0
abbrev s_MarkList_strongly : Stmt := inClass (top 31) 2
abbrev s_MarkList_weakly : Stmt := inClass (top 31) 3
abbrev s_Current_init : Stmt := inClass (top 34) 0
abbrev s_Conditions_init : Stmt := inClass (top 37) 0
abbrev s_Conditions_call : Stmt := inClass (top 37) 2
abbrev s_Conditions_binding_holds : Stmt := inClass (top 37) 3
abbrev s_Conditions_known_unchanged : Stmt := inClass (top 37) 4
abbrev s_Message_init : Stmt := inClass (top 42) 2
abbrev s_Message_all_values : Stmt := inClass (top 42) 10
abbrev s_Message_joined : Stmt := inClass (top 42) 12
abbrev s_Message_with_field : Stmt := inClass (top 42) 13
abbrev s_Message_without : Stmt := inClass (top 42) 14
abbrev s_Request_remade : Stmt := inClass (top 43) 5
abbrev s_Mark_read : Stmt := inClass (top 30) 1
abbrev s_MarkList_read : Stmt := inClass (top 31) 1
abbrev s_Conditions_of : Stmt := inClass (top 37) 1
abbrev s_Request_init : Stmt := inClass (top 43) 1
/-! ### addresses -/
abbrev gA (K : PySem.W.Frag) (x : Str) : Addr := He.ga K x
abbrev mA (K : PySem.W.Frag) (C m : Str) : Addr := He.ma K (He.ga K C) m
abbrev smA (K : PySem.W.Frag) (C m : Str) : Addr := He5.wf K (He.ga K C) "staticmethod" m
abbrev cmA (K : PySem.W.Frag) (C m : Str) : Addr := He5.wf K (He.ga K C) "classmethod" m
/-- the code object, the class cell of the def at f -/
def codeA (K : PySem.W.Frag) (f : Addr) : Addr := match K.lookup f with
  | some ⟨_, _, .func fd, _⟩ => (match fd.code with
    | .ref c => c
    | _ => 0)
  | _ => 0
def cellA (K : PySem.W.Frag) (f : Addr) : Addr := match K.lookup f with
  | some ⟨_, _, .func fd, _⟩ => (match fd.closure with
    | [(_, c)] => c
    | _ => 0)
  | _ => 0
/-! ### a def as a datum: a class cell or none -/
abbrev FnC : Type := Option (Str × Str × Arguments × FuncBody × Scope × Addr × List Str × Addr)
def fnC (K : PySem.W.Frag) (a : Addr) : FnC := match K.lookup a with
  | some ⟨_, _, .func fd, _⟩ => some (fd.name, fd.qualname, fd.params, fd.body, fd.scope, fd.globals, fd.closure.map (·.1), fd.builtins)
  | _ => none
structure DefC where
  at_ : PySem.W.Frag → Addr
  name : Str
  qual : Str
  st : Stmt
  dfl : List V := []
  kwd : List (Str × V) := []
  clo : List Str := []
def DefC.val (d : DefC) : FnC := some (d.name, d.qual, defArgs d.st, .stmts (defBody d.st), defScope d.st, mainGlobals, d.clo, builtinsNs)
def DefC.ok (K : PySem.W.Frag) (d : DefC) : Bool := PySem.W.keepIn K (.ref (d.at_ K)) && (match K.lookup (d.at_ K) with
  | some ⟨_, _, .func fd, _⟩ => PySem.W.codeIn K fd.code d.qual && (He.dflB K fd.defaults d.dfl && He.kwdB K fd.kwdefaults d.kwd)
  | _ => false)
theorem DefC.raw {K : PySem.W.Frag} {d : DefC} (e : fnC K (d.at_ K) = d.val) (c : d.ok K = true) : ∃ oc od dV kV doc pm an cdv ct osl cl, K.lookup (d.at_ K) = some ⟨oc, od, .func (PySem.W.fnX d.name d.qual (defArgs d.st) (defBody d.st) (defScope d.st) cl dV kV doc pm an cdv ct), osl⟩ ∧
    cl.map (·.1) = d.clo ∧ PySem.W.codeIn K cdv d.qual = true ∧ DflV K dV d.dfl ∧ KwdV K kV d.kwd ∧ PySem.W.keepIn K (.ref (d.at_ K)) = true := by
  obtain ⟨kp, c2⟩ := He.ba c
  unfold fnC at e
  cases q : K.lookup (d.at_ K) with
  | none =>
    rw [q] at c2
    cases c2
  | some o =>
    obtain ⟨oc, od, dt, osl⟩ := o
    rw [q] at c2 e
    cases dt with
    | func fd =>
      obtain ⟨n1, n2, n3, n4, n5, n6, n7, n8, n9, n10, n11, n12, n13, n14, n15⟩ := fd
      have e2 : (some (n1, n2, n3, n4, n5, n6, n7.map (·.1), n15) : FnC) = some (d.name, d.qual, defArgs d.st, .stmts (defBody d.st), defScope d.st, mainGlobals, d.clo, builtinsNs) := e
      simp only [Option.some.injEq, Prod.mk.injEq] at e2
      obtain ⟨h1, h2, h3, h4, h5, h6, h7, h8⟩ := e2
      have c3 : (PySem.W.codeIn K n13 d.qual && (He.dflB K n8 d.dfl && He.kwdB K n9 d.kwd)) = true := c2
      subst h1 h2 h3 h4 h5 h6 h8
      obtain ⟨k1, k2⟩ := He.ba c3
      obtain ⟨k3, k4⟩ := He.ba k2
      exact ⟨_, _, n8, n9, n10, n11, n12, n13, n14, osl, n7, rfl, h7, k1, He.dflB_ok k3, He.kwdB_ok k4, kp⟩
    | _ => cases c2
theorem DefC.funD {K : PySem.W.Frag} {d : DefC} (e : fnC K (d.at_ K) = d.val) (c : d.ok K = true) (h0 : d.clo = []) : ∃ fd, FunD K d.name d.qual (defArgs d.st) (defBody d.st) (defScope d.st) d.dfl d.kwd (d.at_ K) fd := by
  obtain ⟨oc, od, dV, kV, doc, pm, an, cdv, ct, osl, cl, l, hc, k1, k3, k4, kp⟩ := DefC.raw e c
  rw [h0] at hc
  have : cl = [] := List.map_eq_nil_iff.mp hc
  subst this
  exact ⟨_, ⟨oc, od, dV, kV, doc, pm, an, cdv, ct, osl, rfl, l, k1, k3, k4⟩, kp⟩
/-! ### the facts -/
def globs1 : List Str := ["is_plain_sign", "is_plain", "consists_of", "is_path", "is_field_name", "is_value", "list_elements", "read_number", "read_reading", "is_mark_text", "settled", "optional_marks", "optional_reading", "without_own", "checking", "is_body_text", "_law_bag", "_law_take", "_law_letter", "_law_truth", "_law_text", "_law_world"]
def globs2 : List Str := ["_law_shown", "_law_is_settled", "_law_grow", "_law_step", "_law_tag", "_law_note", "_law_unchanged", "_law_due", "_law_checks", "_law_truth_of_settled", "_law_fields", "_law_stay", "law", "Mark", "MarkList", "Current", "Conditions", "Message", "Request"]
def globs : List Str := globs1 ++ globs2
def frees : List Str := ["len", "all", "any", "ord", "int", "str", "list", "isinstance", "range", "bool", "super"]
def kints : List (Str × Int) := [("MOST_DIGITS", 6), ("MOST_NAME", 30), ("MOST_PATH", 60), ("MOST_VALUE", 200), ("PERCENT_CODE", 37), ("MOST_SIGNS", 40)]
def kstrs : List (Str × Str) := [("DIGITS", "0123456789"), ("LETTERS", "abcdefghijklmnopqrstuvwxyz"), ("NAME_SIGNS", "abcdefghijklmnopqrstuvwxyz0123456789-"), ("PATH_SIGNS", "abcdefghijklmnopqrstuvwxyz0123456789/-."), ("LENGTH_NAME", "length"), ("MARK_SIGNS", "abcdefghijklmnopqrstuvwxyz0123456789.-"), ("STAR", "*")]
def noats : List (Str × Str) := [("Mark", "text"), ("Mark", "weak"), ("MarkList", "marks"), ("MarkList", "star"), ("Current", "mark"), ("Current", "changed"), ("Conditions", "method"), ("Conditions", "if_mark"), ("Conditions", "if_no_mark"), ("Conditions", "if_unchanged"), ("Conditions", "if_changed"), ("Conditions", "if_part"), ("Request", "method"), ("Request", "path"), ("Request", "fields"), ("Request", "body")]
def meths : List (Str × Str) := [("Mark", "weakly"), ("MarkList", "strongly"), ("MarkList", "weakly"), ("Conditions", "binding_holds"), ("Conditions", "known_unchanged"), ("Request", "all_values"), ("Request", "joined"), ("Request", "with_field"), ("Request", "remade")]
def clss : List Str := ["Mark", "MarkList", "Current", "Conditions", "Request"]
def mkrs : List Str := ["Mark", "MarkList", "Current", "Conditions", "Request"]
def creads : List Str := ["Mark", "MarkList", "Conditions", "Message", "Request"]
def fa : List He.Fa := globs.map .glo ++ (frees.map .free ++ (kints.map (fun q => .int q.1 q.2) ++ (kstrs.map (fun q => .str q.1 q.2) ++ (noats.map (fun q => .noat q.1 q.2) ++ (meths.map (fun q => .meth q.1 q.2) ++ (clss.map .cls ++ (mkrs.map .mkr ++ globs.map .keep)))))))
def creadB (K : PySem.W.Frag) (C : Addr) : Bool := PySem.W.readsIn K C (.type "type") && He.eqO (PySem.W.specialIn K (.ref C) "__getattribute__") (some (some (.builtin "type.__getattribute__")))
def cintB (K : PySem.W.Frag) (C : Addr) (m : Str) (i : Int) : Bool := match PySem.W.findCls K (.ref C) (.type "type") m with
  | some (.val (.int j _)) => decide (j = i)
  | _ => false
/-- the tuple METHODS of Request -/
def mtA (K : PySem.W.Frag) : Addr := match PySem.W.findCls K (.ref (gA K "Request")) (.type "type") "METHODS" with
  | some (.val (.ref t)) => t
  | _ => 0
def ctupB (K : PySem.W.Frag) (vs : List V) : Bool := (match PySem.W.findCls K (.ref (gA K "Request")) (.type "type") "METHODS" with
  | some (.val (.ref t)) => decide (t = mtA K)
  | _ => false) && (match K.lookup (mtA K) with
  | some ⟨.type c, _, .seq its _, _⟩ => decide (c = "tuple") && (decide (its.size ≤ sizeLine) && He.relAll vs its.toList)
  | _ => false)
def smB (K : PySem.W.Frag) (C m : Str) : Bool := He5.wrapB K (gA K C) "staticmethod" "staticmethod.__get__" m && PySem.W.keepIn K (.ref (smA K C m))
def cmB (K : PySem.W.Frag) (C m : Str) : Bool := He5.wrapB K (gA K C) "classmethod" "classmethod.__get__" m && PySem.W.fnIn K (cmA K C m)
def callB (K : PySem.W.Frag) (C m : Str) : Bool := He.eqO (PySem.W.findIn K (.ref (gA K C)) m) (some (some (.ref (mA K C m)))) && (PySem.W.isFn K (.ref (mA K C m)) && PySem.W.fnIn K (mA K C m))
abbrev rI (K : PySem.W.Frag) : Addr := mA K "Request" "__init__"
def supB (K : PySem.W.Frag) : Bool :=
  (match K.lookup (cellA K (rI K)) with
    | some ⟨_, _, .cell (some (.ref D)), _⟩ => decide (D = gA K "Request")
    | _ => false) &&
  ((match K.lookup (codeA K (rI K)) with
    | some ⟨_, _, .fields vs, _⟩ => (match vs[2]? with
      | some (Value.str file _) => ((PP.main.file : Str) == file)
      | _ => false)
    | _ => false) &&
  ((PySem.W.clsIn K (gA K "Request")).isSome && (decide (PySem.W.mroIn K (gA K "Request") (.ref (gA K "Request")) = some true) && (He.eqO (PySem.W.nsIn K cStatics "thirdparty.any") (some none) &&
  (decide (PySem.W.ks_superIn K (gA K "Request") (gA K "Request") "__init__" = some (some (.ref (mA K "Message" "__init__")))) && (decide (PySem.W.typeIn K (.ref (mA K "Message" "__init__")) = some (.type "function")) && PySem.W.fnIn K (mA K "Message" "__init__")))))))
def ex (K : PySem.W.Frag) : Bool := creads.all (fun x => creadB K (gA K x)) && (cintB K (gA K "Message") "MOST_FIELDS" 40 && (cintB K (gA K "Message") "MOST_BODY" 100000 && (ctupB K [.str "get", .str "put", .str "delete"] &&
  (smB K "Mark" "read" && (smB K "MarkList" "read" && (cmB K "Conditions" "of" && (callB K "Conditions" "__call__" && (callB K "Mark" "__str__" && (callB K "Request" "without" && supB K)))))))))
/-! ### the defs -/
def d_is_plain_sign : DefC := ⟨fun K => gA K "is_plain_sign", "is_plain_sign", "is_plain_sign", s_is_plain_sign, [], [], []⟩
def d_is_plain : DefC := ⟨fun K => gA K "is_plain", "is_plain", "is_plain", s_is_plain, [], [], []⟩
def d_consists_of : DefC := ⟨fun K => gA K "consists_of", "consists_of", "consists_of", s_consists_of, [], [], []⟩
def d_is_path : DefC := ⟨fun K => gA K "is_path", "is_path", "is_path", s_is_path, [], [], []⟩
def d_is_field_name : DefC := ⟨fun K => gA K "is_field_name", "is_field_name", "is_field_name", s_is_field_name, [], [], []⟩
def d_is_value : DefC := ⟨fun K => gA K "is_value", "is_value", "is_value", s_is_value, [], [], []⟩
def d_list_elements : DefC := ⟨fun K => gA K "list_elements", "list_elements", "list_elements", s_list_elements, [], [], []⟩
def d_read_number : DefC := ⟨fun K => gA K "read_number", "read_number", "read_number", s_read_number, [], [], []⟩
def d_read_reading : DefC := ⟨fun K => gA K "read_reading", "read_reading", "read_reading", s_read_reading, [], [], []⟩
def d_is_mark_text : DefC := ⟨fun K => gA K "is_mark_text", "is_mark_text", "is_mark_text", s_is_mark_text, [], [], []⟩
def d_settled : DefC := ⟨fun K => gA K "settled", "settled", "settled", s_settled, [], [], []⟩
def d_optional_marks : DefC := ⟨fun K => gA K "optional_marks", "optional_marks", "optional_marks", s_optional_marks, [], [], []⟩
def d_optional_reading : DefC := ⟨fun K => gA K "optional_reading", "optional_reading", "optional_reading", s_optional_reading, [], [], []⟩
def d_without_own : DefC := ⟨fun K => gA K "without_own", "without_own", "without_own", s_without_own, [], [], []⟩
def d_checking : DefC := ⟨fun K => gA K "checking", "checking", "checking", s_checking, [], [], []⟩
def d_is_body_text : DefC := ⟨fun K => gA K "is_body_text", "is_body_text", "is_body_text", s_is_body_text, [], [], []⟩
def d_law_bag : DefC := ⟨fun K => gA K "_law_bag", "_law_bag", "_law_bag", s_law_bag, [], [], []⟩
def d_law_take : DefC := ⟨fun K => gA K "_law_take", "_law_take", "_law_take", s_law_take, [], [], []⟩
def d_law_letter : DefC := ⟨fun K => gA K "_law_letter", "_law_letter", "_law_letter", s_law_letter, [], [], []⟩
def d_law_truth : DefC := ⟨fun K => gA K "_law_truth", "_law_truth", "_law_truth", s_law_truth, [], [], []⟩
def d_law_text : DefC := ⟨fun K => gA K "_law_text", "_law_text", "_law_text", s_law_text, [], [], []⟩
def d_law_world : DefC := ⟨fun K => gA K "_law_world", "_law_world", "_law_world", s_law_world, [], [], []⟩
def d_law_shown : DefC := ⟨fun K => gA K "_law_shown", "_law_shown", "_law_shown", s_law_shown, [], [], []⟩
def d_law_is_settled : DefC := ⟨fun K => gA K "_law_is_settled", "_law_is_settled", "_law_is_settled", s_law_is_settled, [], [], []⟩
def d_law_grow : DefC := ⟨fun K => gA K "_law_grow", "_law_grow", "_law_grow", s_law_grow, [], [], []⟩
def d_law_step : DefC := ⟨fun K => gA K "_law_step", "_law_step", "_law_step", s_law_step, [], [], []⟩
def d_law_tag : DefC := ⟨fun K => gA K "_law_tag", "_law_tag", "_law_tag", s_law_tag, [], [], []⟩
def d_law_note : DefC := ⟨fun K => gA K "_law_note", "_law_note", "_law_note", s_law_note, [], [], []⟩
def d_law_unchanged : DefC := ⟨fun K => gA K "_law_unchanged", "_law_unchanged", "_law_unchanged", s_law_unchanged, [], [], []⟩
def d_law_due : DefC := ⟨fun K => gA K "_law_due", "_law_due", "_law_due", s_law_due, [], [], []⟩
def d_law_checks : DefC := ⟨fun K => gA K "_law_checks", "_law_checks", "_law_checks", s_law_checks, [], [], []⟩
def d_law_truth_of_settled : DefC := ⟨fun K => gA K "_law_truth_of_settled", "_law_truth_of_settled", "_law_truth_of_settled", s_law_truth_of_settled, [], [], []⟩
def d_law_fields : DefC := ⟨fun K => gA K "_law_fields", "_law_fields", "_law_fields", s_law_fields, [], [], []⟩
def d_law_stay : DefC := ⟨fun K => gA K "_law_stay", "_law_stay", "_law_stay", s_law_stay, [], [], []⟩
def d_law : DefC := ⟨fun K => gA K "law", "law", "law", s_law, [], [], []⟩
def d_Mark_init : DefC := ⟨fun K => mA K "Mark" "__init__", "__init__", "Mark.__init__", s_Mark_init, [.bl false], [], []⟩
def d_Mark_weakly : DefC := ⟨fun K => mA K "Mark" "weakly", "weakly", "Mark.weakly", s_Mark_weakly, [], [], []⟩
def d_Mark_str : DefC := ⟨fun K => mA K "Mark" "__str__", "__str__", "Mark.__str__", s_Mark_str, [], [], []⟩
def d_MarkList_init : DefC := ⟨fun K => mA K "MarkList" "__init__", "__init__", "MarkList.__init__", s_MarkList_init, [.bl false], [], []⟩
def d_MarkList_strongly : DefC := ⟨fun K => mA K "MarkList" "strongly", "strongly", "MarkList.strongly", s_MarkList_strongly, [], [], []⟩
def d_MarkList_weakly : DefC := ⟨fun K => mA K "MarkList" "weakly", "weakly", "MarkList.weakly", s_MarkList_weakly, [], [], []⟩
def d_Current_init : DefC := ⟨fun K => mA K "Current" "__init__", "__init__", "Current.__init__", s_Current_init, [], [], []⟩
def d_Conditions_init : DefC := ⟨fun K => mA K "Conditions" "__init__", "__init__", "Conditions.__init__", s_Conditions_init, [], [("if_mark", .non), ("if_no_mark", .non), ("if_unchanged", .non), ("if_changed", .non), ("if_part", .non)], []⟩
def d_Conditions_call : DefC := ⟨fun K => mA K "Conditions" "__call__", "__call__", "Conditions.__call__", s_Conditions_call, [], [], []⟩
def d_Conditions_binding_holds : DefC := ⟨fun K => mA K "Conditions" "binding_holds", "binding_holds", "Conditions.binding_holds", s_Conditions_binding_holds, [], [], []⟩
def d_Conditions_known_unchanged : DefC := ⟨fun K => mA K "Conditions" "known_unchanged", "known_unchanged", "Conditions.known_unchanged", s_Conditions_known_unchanged, [], [], []⟩
def d_Message_init : DefC := ⟨fun K => mA K "Message" "__init__", "__init__", "Message.__init__", s_Message_init, [], [], []⟩
def d_Message_all_values : DefC := ⟨fun K => mA K "Request" "all_values", "all_values", "Message.all_values", s_Message_all_values, [], [], []⟩
def d_Message_joined : DefC := ⟨fun K => mA K "Request" "joined", "joined", "Message.joined", s_Message_joined, [], [], []⟩
def d_Message_with_field : DefC := ⟨fun K => mA K "Request" "with_field", "with_field", "Message.with_field", s_Message_with_field, [], [], []⟩
def d_Message_without : DefC := ⟨fun K => mA K "Request" "without", "without", "Message.without", s_Message_without, [], [], []⟩
def d_Request_remade : DefC := ⟨fun K => mA K "Request" "remade", "remade", "Request.remade", s_Request_remade, [], [], []⟩
def d_Mark_read : DefC := ⟨fun K => smA K "Mark" "read", "read", "Mark.read", s_Mark_read, [], [], []⟩
def d_MarkList_read : DefC := ⟨fun K => smA K "MarkList" "read", "read", "MarkList.read", s_MarkList_read, [], [], []⟩
def d_Conditions_of : DefC := ⟨fun K => cmA K "Conditions" "of", "of", "Conditions.of", s_Conditions_of, [], [], []⟩
/-- the empty tuple of the defaults of Request.__init__ -/
def e0A (K : PySem.W.Frag) : Addr := match K.lookup (rI K) with
  | some ⟨_, _, .func fd, _⟩ => (match fd.defaults with
    | .ref T => (match K.lookup T with
      | some ⟨_, _, .seq its _, _⟩ => (match its.toList with
        | .ref a :: _ => a
        | _ => 0)
      | _ => 0)
    | _ => 0)
  | _ => 0
def d_Request_init (K0 : PySem.W.Frag) : DefC := ⟨fun K => rI K, "__init__", "Request.__init__", s_Request_init, [.ref (e0A K0), .str ""], [], ["__class__"]⟩
def fn1 : List DefC := [d_is_plain_sign, d_is_plain, d_consists_of, d_is_path, d_is_field_name, d_is_value, d_list_elements, d_read_number, d_read_reading, d_is_mark_text, d_settled, d_optional_marks, d_optional_reading, d_without_own, d_checking, d_is_body_text, d_law_bag, d_law_take, d_law_letter, d_law_truth, d_law_text, d_law_world, d_law_shown, d_law_is_settled, d_law_grow]
def fn2 : List DefC := [d_law_step, d_law_tag, d_law_note, d_law_unchanged, d_law_due, d_law_checks, d_law_truth_of_settled, d_law_fields, d_law_stay, d_law, d_Mark_init, d_Mark_weakly, d_Mark_str, d_MarkList_init, d_MarkList_strongly, d_MarkList_weakly, d_Current_init, d_Conditions_init, d_Conditions_call, d_Conditions_binding_holds, d_Conditions_known_unchanged, d_Message_init, d_Message_all_values, d_Message_joined, d_Message_with_field, d_Message_without, d_Request_remade, d_Mark_read, d_MarkList_read, d_Conditions_of]
def fn : List DefC := fn1 ++ fn2
/-! ### the Hook -/
abbrev AlC : Type := Bool × (List FnC × FnC)
def obsC (K : PySem.W.Frag) : AlC := ((fa.all fun f => f.ok K) && ((fn.all fun d => d.ok K) && ((d_Request_init K).ok K && ex K)), (fn.map fun d => fnC K (d.at_ K), fnC K (rI K)))
def valC : AlC := (true, (fn.map DefC.val, some ("__init__", "Request.__init__", defArgs s_Request_init, .stmts (defBody s_Request_init), defScope s_Request_init, mainGlobals, (["__class__"] : List Str), builtinsNs)))
def SaysC (K : PySem.W.Frag) : Prop := obsC K = valC
/-- what an object names, as far as the facts want it -/
def refsX (o : Obj) : List Addr := match o.data with
  | .dict es _ => es.toList.flatMap fun e => He.refV e.val
  | .func fd => He.refV fd.code ++ (He.refV fd.defaults ++ (He.refV fd.kwdefaults ++ fd.closure.map (·.2)))
  | .cls cd => [cd.ns]
  | .seq its _ => its.toList.flatMap He.refV
  | .fields vs => (match o.cls with
    | .type n => (match n == "staticmethod" || n == "classmethod" with
      | true => vs.toList.flatMap He.refV
      | false => [])
    | _ => [])
  | _ => []
def nextX (g : Addr → Option Obj) (as : List Addr) : List Addr := as.flatMap fun a => match g a with
  | some o => refsX o
  | none => []
def frL {β : Type} : List Addr → (List Addr → β) → β
  | [], k => k []
  | a :: as, k => HandSHeadRun.frNat a fun b => frL as fun bs => k (b :: bs)
theorem frL_eq {β : Type} : ∀ (l : List Addr) (k : List Addr → β), frL l k = k l
  | [], _ => rfl
  | a :: as, k => by
    show (HandSHeadRun.frNat a fun b => frL as fun bs => k (b :: bs)) = _
    rw [HandSHeadRun.frNat_eq, frL_eq as]
/-- the levels of what the module's names reach -/
def levX {β : Type} (g : Addr → Option Obj) : Nat → List Addr → List Addr → (List Addr → β) → β
  | 0, acc, _, k => k acc
  | n + 1, acc, as, k => frL (nextX g as) fun bs => levX g n (acc ++ bs) bs k
def asX (g : Addr → Option Obj) (n : Nat) : List Addr := levX g n [mainGlobals, cStatics] [mainGlobals] id
theorem levX_eq {β : Type} (g : Addr → Option Obj) : ∀ (n : Nat) (acc as : List Addr) (k : List Addr → β), levX g n acc as k = k (levX g n acc as id)
  | 0, _, _, _ => rfl
  | n + 1, acc, as, k => by
    show frL (nextX g as) (fun bs => levX g n (acc ++ bs) bs k) = k (frL (nextX g as) (fun bs => levX g n (acc ++ bs) bs id))
    rw [frL_eq, frL_eq, levX_eq g n _ _ k]
def obsCG (n : Nat) (g : Addr → Option Obj) : AlC := levX g n [mainGlobals, cStatics] [mainGlobals] fun as => obsC (He.frG g as)
theorem obsCG_as (n : Nat) (g : Addr → Option Obj) : obsCG n g = obsC (He.frG g (asX g n)) := levX_eq g n _ _ _
def hookC (n : Nat) : PySem.W.Hook where
  α := AlC
  obs := fun s => obsCG n s.heap.get?
  val := fun _ => valC
  says := fun _ h => ∃ K : PySem.W.Frag, K.In h ∧ SaysC K
  of := fun _ s e => ⟨He.frG s.heap.get? (asX s.heap.get? n), He.frG_in, (obsCG_as n s.heap.get?).symm.trans e⟩
  keeps := fun _ _ _ ⟨K, hK, c⟩ k => ⟨K, PySem.W.Frag.In.keeps hK k, c⟩
theorem obsCG_eq {n : Nat} {g : Addr → Option Obj} {s : Shared} (h : ∀ a, g a = s.heap.get? a) : obsCG n g = (hookC n).obs s := by
  have e : g = s.heap.get? := funext h
  rw [e] <;> rfl
section
variable {K : PySem.W.Frag}
theorem SaysC.b (c : SaysC K) : ((fa.all fun f => f.ok K) && ((fn.all fun d => d.ok K) && ((d_Request_init K).ok K && ex K))) = true := congrArg (fun z : AlC => z.1) c
theorem SaysC.fact (c : SaysC K) {f : He.Fa} (h : f ∈ fa) : f.ok K = true := List.all_eq_true.mp (He.ba c.b).1 f h
theorem SaysC.ex_ (c : SaysC K) : ex K = true := (He.ba (He.ba (He.ba c.b).2).2).2
theorem SaysC.def_ (c : SaysC K) {d : DefC} (i : Nat) (h : fn[i]? = some d) (h0 : d.clo = [] := by rfl) : ∃ fd, FunD K d.name d.qual (defArgs d.st) (defBody d.st) (defScope d.st) d.dfl d.kwd (d.at_ K) fd := by
  have e : fn.map (fun d => fnC K (d.at_ K)) = fn.map DefC.val := congrArg (fun z : AlC => z.2.1) c
  have e2 : (fn.map fun d => fnC K (d.at_ K))[i]? = (fn.map DefC.val)[i]? := by rw [e]
  rw [List.getElem?_map, List.getElem?_map, h] at e2
  exact DefC.funD (Option.some.inj e2) (List.all_eq_true.mp (He.ba (He.ba c.b).2).1 d (List.mem_of_getElem? h)) h0
theorem SaysC.req (c : SaysC K) : ∃ oc od dV kV doc pm an cdv ct osl cl, K.lookup (rI K) = some ⟨oc, od, .func (PySem.W.fnX "__init__" "Request.__init__" (defArgs s_Request_init) (defBody s_Request_init) (defScope s_Request_init) cl dV kV doc pm an cdv ct), osl⟩ ∧
    cl.map (·.1) = (["__class__"] : List Str) ∧ PySem.W.codeIn K cdv "Request.__init__" = true ∧ DflV K dV [.ref (e0A K), .str ""] ∧ KwdV K kV [] ∧ PySem.W.keepIn K (.ref (rI K)) = true :=
  DefC.raw (d := d_Request_init K) (congrArg (fun z : AlC => z.2.2) c) (He.ba (He.ba (He.ba c.b).2).2).1
end
end K13

set_option Elab.async false
set_option linter.all false
set_option maxRecDepth 100000
set_option maxHeartbeats 4000000
/-! the facts by names; heaps -/
namespace K13
open PySem PySem.Spec PyProof.Rows L2

/-! ### heaps -/
/-- what stands in H' and did not stand in H -/
def New (H H' : Hp) : Hp := fun a => match H a with
  | none => H' a
  | some _ => none
theorem new_at {H H' : Hp} {a : Addr} {o : HO} (h : H a = none) (h' : H' a = some o) : New H H' a = some o := by
  unfold New
  rw [h]
  exact h'
theorem of_new {H H' : Hp} {a : Addr} {o : HO} (h : New H H' a = some o) : H a = none ∧ H' a = some o := by
  unfold New at h
  cases e : H a with
  | none =>
    rw [e] at h
    exact ⟨rfl, h⟩
  | some x =>
    rw [e] at h
    cases h
theorem new_sub (H H' : Hp) : Same (New H H') H' := fun _ _ h => (of_new h).2
theorem new_mono {H H1 H2 : Hp} (s : Same H1 H2) : Same (New H H1) (New H H2) := fun a o h => new_at (of_new h).1 (s a o (of_new h).2)
theorem new_back {H H1 H2 : Hp} (s : Same H H1) : Same (New H1 H2) (New H H2) := fun a o h => new_at (s.free (of_new h).1) (of_new h).2
theorem same_upd {H : Hp} {p : Addr} {o : HO} (h : H p = none) : Same H (upd H p o) := fun b u e => by
  rw [upd_ne (ne_of_none e h)]
  exact e
theorem same_then {H H1 : Hp} {p : Addr} {o : HO} (s : Same H H1) (h : H1 p = none) : Same H (upd H1 p o) := s.trans (same_upd h)
/-- all but b as it was -/
def Kp (b : Addr) (H H' : Hp) : Prop := ∀ c o, c ≠ b → H c = some o → H' c = some o
theorem Kp.of_same {b : Addr} {H H' : Hp} (s : Same H H') : Kp b H H' := fun c o _ h => s c o h
theorem Kp.refl (b : Addr) (H : Hp) : Kp b H H := fun _ _ _ h => h
theorem Kp.trans {b : Addr} {H H1 H2 : Hp} (x : Kp b H H1) (y : Kp b H1 H2) : Kp b H H2 := fun c o n h => y c o n (x c o n h)
theorem kp_upd {b : Addr} {H : Hp} {o : HO} : Kp b H (upd H b o) := fun c u n h => by
  rw [upd_ne n]
  exact h
theorem Kp.free {b : Addr} {H H' : Hp} (x : Kp b H H') {l : Addr} (n : l ≠ b) (h : H' l = none) : H l = none := by
  cases q : H l with
  | none => rfl
  | some o =>
    rw [x l o n q] at h
    cases h
/-- H without the addresses of S -/
def Off (S : List Addr) (H : Hp) : Hp := fun a => if a ∈ S then none else H a
theorem off_at {S : List Addr} {H : Hp} {a : Addr} {o : HO} (n : a ∉ S) (h : H a = some o) : Off S H a = some o := by
  unfold Off
  rw [if_neg n]
  exact h
theorem of_off {S : List Addr} {H : Hp} {a : Addr} {o : HO} (h : Off S H a = some o) : a ∉ S ∧ H a = some o := by
  unfold Off at h
  by_cases e : a ∈ S
  · rw [if_pos e] at h
    cases h
  · rw [if_neg e] at h
    exact ⟨e, h⟩
theorem off_sub (S : List Addr) (H : Hp) : Same (Off S H) H := fun _ _ h => (of_off h).2
theorem off_mono {S : List Addr} {H H' : Hp} (k : ∀ c o, c ∉ S → H c = some o → H' c = some o) : Same (Off S H) (Off S H') := fun a o h => off_at (of_off h).1 (k a o (of_off h).1 (of_off h).2)
theorem new_off {S : List Addr} {H H' : Hp} (h : ∀ a ∈ S, H a ≠ none) : Same (New H H') (Off S H') := fun a o e => off_at (fun m => h a m (of_new e).1) (of_new e).2

/-! ### the facts -/
structure Tx (K : PySem.W.Frag) (mg : Str → Option Value) : Prop where
  says : SaysC K
  at_ : ∃ h : Heap, K.In h ∧ h.Ns mainGlobals mg
section
variable {K : PySem.W.Frag} {mg : Str → Option Value}
theorem mem_ap1 {α : Type} {a : α} {l m : List α} (h : a ∈ l) : a ∈ l ++ m := List.mem_append_left _ h
theorem mem_ap2 {α : Type} {a : α} {l m : List α} (h : a ∈ m) : a ∈ l ++ m := List.mem_append_right _ h
theorem Tx.glo (T : Tx K mg) (x : Str) (m : x ∈ globs := by decide +kernel) : mg x = some (.ref (gA K x)) := by
  obtain ⟨h, X, G⟩ := T.at_
  exact He.glo_ok X G (T.says.fact (f := .glo x) (mem_ap1 (List.mem_map_of_mem m)))
theorem Tx.free (T : Tx K mg) (x : Str) (m : x ∈ frees := by decide +kernel) : mg x = none := by
  obtain ⟨h, X, G⟩ := T.at_
  exact He.free_ok X G (T.says.fact (f := .free x) (mem_ap2 (mem_ap1 (List.mem_map_of_mem m))))
theorem Tx.int (T : Tx K mg) (x : Str) (i : Int) (m : (x, i) ∈ kints := by decide +kernel) : ∃ t, mg x = some (.int i t) := by
  obtain ⟨h, X, G⟩ := T.at_
  exact He.int_ok X G (T.says.fact (f := .int x i) (mem_ap2 (mem_ap2 (mem_ap1 (List.mem_map_of_mem (f := fun q : Str × Int => He.Fa.int q.1 q.2) m)))))
theorem Tx.str (T : Tx K mg) (x z : Str) (m : (x, z) ∈ kstrs := by decide +kernel) : ∃ t, mg x = some (.str z t) := by
  obtain ⟨h, X, G⟩ := T.at_
  exact He.str_ok X G (T.says.fact (f := .str x z) (mem_ap2 (mem_ap2 (mem_ap2 (mem_ap1 (List.mem_map_of_mem (f := fun q : Str × Str => He.Fa.str q.1 q.2) m))))))
theorem Tx.noat (T : Tx K mg) (x f : Str) (m : (x, f) ∈ noats := by decide +kernel) : NoAttr K (gA K x) f :=
  He.noat_ok (T.says.fact (f := .noat x f) (mem_ap2 (mem_ap2 (mem_ap2 (mem_ap2 (mem_ap1 (List.mem_map_of_mem (f := fun q : Str × Str => He.Fa.noat q.1 q.2) m)))))))
theorem Tx.meth (T : Tx K mg) (x f : Str) (m : (x, f) ∈ meths := by decide +kernel) : Meth K (gA K x) f (mA K x f) :=
  He.meth_ok (T.says.fact (f := .meth x f) (mem_ap2 (mem_ap2 (mem_ap2 (mem_ap2 (mem_ap2 (mem_ap1 (List.mem_map_of_mem (f := fun q : Str × Str => He.Fa.meth q.1 q.2) m))))))))
theorem Tx.cls (T : Tx K mg) (x : Str) (m : x ∈ clss := by decide +kernel) : Cls K (gA K x) :=
  He.cls_ok (T.says.fact (f := .cls x) (mem_ap2 (mem_ap2 (mem_ap2 (mem_ap2 (mem_ap2 (mem_ap2 (mem_ap1 (List.mem_map_of_mem m)))))))))
theorem Tx.mkr (T : Tx K mg) (x : Str) (m : x ∈ mkrs := by decide +kernel) : Mk K (gA K x) (mA K x "__init__") :=
  He.mkr_ok (T.says.fact (f := .mkr x) (mem_ap2 (mem_ap2 (mem_ap2 (mem_ap2 (mem_ap2 (mem_ap2 (mem_ap2 (mem_ap1 (List.mem_map_of_mem m))))))))))
theorem Tx.keep (T : Tx K mg) (x : Str) (m : x ∈ globs := by decide +kernel) : PySem.W.keepIn K (.ref (gA K x)) = true :=
  He.keep_ok (x := x) (T.says.fact (f := .keep x) (mem_ap2 (mem_ap2 (mem_ap2 (mem_ap2 (mem_ap2 (mem_ap2 (mem_ap2 (mem_ap2 (List.mem_map_of_mem m))))))))))
/-! the further ones -/
theorem ex_all (T : Tx K mg) : creads.all (fun x => creadB K (gA K x)) = true ∧ cintB K (gA K "Message") "MOST_FIELDS" 40 = true ∧ cintB K (gA K "Message") "MOST_BODY" 100000 = true ∧ ctupB K [.str "get", .str "put", .str "delete"] = true ∧
    smB K "Mark" "read" = true ∧ smB K "MarkList" "read" = true ∧ cmB K "Conditions" "of" = true ∧ callB K "Conditions" "__call__" = true ∧ callB K "Mark" "__str__" = true ∧ callB K "Request" "without" = true ∧ supB K = true := by
  obtain ⟨h1, h⟩ := He.ba T.says.ex_
  obtain ⟨h2, h⟩ := He.ba h
  obtain ⟨h3, h⟩ := He.ba h
  obtain ⟨h4, h⟩ := He.ba h
  obtain ⟨h5, h⟩ := He.ba h
  obtain ⟨h6, h⟩ := He.ba h
  obtain ⟨h7, h⟩ := He.ba h
  obtain ⟨h8, h⟩ := He.ba h
  obtain ⟨h9, h⟩ := He.ba h
  obtain ⟨h10, h⟩ := He.ba h
  exact ⟨h1, h2, h3, h4, h5, h6, h7, h8, h9, h10, h⟩
theorem Tx.cread (T : Tx K mg) (x : Str) (m : x ∈ creads := by decide +kernel) : ClX.CRead K (gA K x) (.type "type") := by
  obtain ⟨h1, h2⟩ := He.ba (List.all_eq_true.mp (ex_all T).1 x m)
  exact ⟨h1, He.eqO_ok h2⟩
theorem cint_ok {C : Addr} {m : Str} {i : Int} (h : cintB K C m i = true) : ∃ u, ClX.CVal K C (.type "type") m (.int i) u := by
  unfold cintB at h
  split at h
  · rename_i j t e
    have ej : j = i := of_decide_eq_true h
    subst ej
    exact ⟨_, e, t, rfl⟩
  · cases h
theorem Tx.mostF (T : Tx K mg) : ∃ u, ClX.CVal K (gA K "Message") (.type "type") "MOST_FIELDS" (.int 40) u := cint_ok (ex_all T).2.1
theorem Tx.mostB (T : Tx K mg) : ∃ u, ClX.CVal K (gA K "Message") (.type "type") "MOST_BODY" (.int 100000) u := cint_ok (ex_all T).2.2.1
theorem Tx.methodsC (T : Tx K mg) : ∃ u, ClX.CVal K (gA K "Request") (.type "type") "METHODS" (.ref (mtA K)) u := by
  have h := (He.ba (ex_all T).2.2.2.1).1
  split at h
  · rename_i t e
    have et : t = mtA K := of_decide_eq_true h
    exact ⟨_, e, by rw [et]; rfl⟩
  · cases h
theorem Tx.methodsT (T : Tx K mg) (H : Hp) : SqT K H (mtA K) [.str "get", .str "put", .str "delete"] := by
  have h := (He.ba (ex_all T).2.2.2.1).2
  split at h
  · rename_i c d its n sl e
    obtain ⟨h1, h2⟩ := He.ba h
    obtain ⟨h3, h4⟩ := He.ba h2
    exact .inr ⟨_, its, n, e, congrArg Value.type (of_decide_eq_true h1), rfl, of_decide_eq_true h3, He.relAll_ok h4⟩
  · cases h
theorem sm_ok {C m : Str} (h : smB K C m = true) : SMet K (gA K C) m (mA K C m) (smA K C m) := by
  obtain ⟨h1, h2⟩ := He.ba h
  obtain ⟨h3, h4⟩ := He5.wrapB_ok h1
  exact ⟨h3, h4, h2⟩
theorem Tx.smMark (T : Tx K mg) : SMet K (gA K "Mark") "read" (mA K "Mark" "read") (smA K "Mark" "read") := sm_ok (ex_all T).2.2.2.2.1
theorem Tx.smList (T : Tx K mg) : SMet K (gA K "MarkList") "read" (mA K "MarkList" "read") (smA K "MarkList" "read") := sm_ok (ex_all T).2.2.2.2.2.1
theorem Tx.cmOf (T : Tx K mg) : ClX.CMet K (gA K "Conditions") (.type "type") "of" (mA K "Conditions" "of") (cmA K "Conditions" "of") := by
  obtain ⟨h1, h2⟩ := He.ba (ex_all T).2.2.2.2.2.2.1
  obtain ⟨h3, h4⟩ := He5.wrapB_ok h1
  exact ⟨h3, h4, h2⟩
theorem Tx.callO (T : Tx K mg) : StX.CallO K (gA K "Conditions") (mA K "Conditions" "__call__") := by
  obtain ⟨h1, h2⟩ := He.ba (ex_all T).2.2.2.2.2.2.2.1
  obtain ⟨h3, h4⟩ := He.ba h2
  exact ⟨He.eqO_ok h1, h3, h4⟩
theorem Tx.strM (T : Tx K mg) : PySem.W.findIn K (.ref (gA K "Mark")) "__str__" = some (some (.ref (mA K "Mark" "__str__"))) ∧ PySem.W.isFn K (.ref (mA K "Mark" "__str__")) = true := by
  obtain ⟨h1, h2⟩ := He.ba (ex_all T).2.2.2.2.2.2.2.2.1
  obtain ⟨h3, h4⟩ := He.ba h2
  exact ⟨He.eqO_ok h1, h3⟩
theorem keep_of_fn {a : Addr} (h : PySem.W.fnIn K a = true) : PySem.W.keepIn K (.ref a) = true := by
  unfold PySem.W.fnIn at h
  unfold PySem.W.keepIn
  split at h
  · rename_i e
    simp only [e]
  · cases h
theorem Tx.methWithout (T : Tx K mg) : Meth K (gA K "Request") "without" (mA K "Request" "without") := by
  obtain ⟨h1, h2⟩ := He.ba (ex_all T).2.2.2.2.2.2.2.2.2.1
  obtain ⟨h3, h4⟩ := He.ba h2
  exact ⟨He.eqO_ok h1, h3, keep_of_fn h4⟩
theorem Tx.sup (T : Tx K mg) : SupF PP K mg (gA K "Request") (gA K "Request") "__init__" (mA K "Message" "__init__") (cellA K (rI K)) (codeA K (rI K)) := by
  obtain ⟨h1, h⟩ := He.ba (ex_all T).2.2.2.2.2.2.2.2.2.2
  obtain ⟨h2, h⟩ := He.ba h
  obtain ⟨h3, h⟩ := He.ba h
  obtain ⟨h4, h⟩ := He.ba h
  obtain ⟨h5, h⟩ := He.ba h
  obtain ⟨h6, h⟩ := He.ba h
  obtain ⟨h7, h8⟩ := He.ba h
  refine ⟨?_, ?_, by decide +kernel, h3, of_decide_eq_true h4, T.free "super", He.eqO_ok h5, of_decide_eq_true h6, of_decide_eq_true h7, h8⟩
  · split at h1
    · rename_i c d D sl e
      have eD : D = gA K "Request" := of_decide_eq_true h1
      subst eD
      exact ⟨_, _, _, e⟩
    · cases h1
  · split at h2
    · rename_i c d vs sl e
      split at h2
      · rename_i file t e2
        exact ⟨_, _, _, vs, file, t, e, e2, h2⟩
      · cases h2
    · cases h2
end

/-! ### a def's promise from its datum -/
section
variable {w : World} {K : PySem.W.Frag} {mg : Str → Option Value} {base : Heap} {k : Nat} {N ps : List Str} {sp : Sp}
/-- of no defaults -/
theorem fnr_of {d : DefC} (T : Tx K mg) (i : Nat) (hi : fn[i]? = some d) (S : FnScope N ps (defScope d.st))
    (hb : ∀ (kV doc pm : Value) (an : Option Addr) (cdv ct : Value) (us : List Value), us.length = ps.length → bindArgs (PySem.W.fnOf d.name d.qual (defArgs d.st) (defBody d.st) (defScope d.st) .none kV doc pm an cdv ct) ⟨us, []⟩ = pure (ps.zip us))
    (len : ∀ vs H Q E, sp vs H Q E → vs.length = ps.length)
    (hbody : ∀ (cdv : Value) (A : Around) (outer : List Env) (s : Shared) (H : Hp) (vs : List V) (Q : VK) (E : XK), Room k (A.deeper (envOfC d.qual (defScope d.st) s.heap.objs.size (d.at_ K) cdv)) → sp vs H Q E →
      ∃ t, PSs (cxOf CX0 PP w K mg base N d.qual (defScope d.st) (d.at_ K) cdv A outer s H E).nox (defBody d.st) t ∧ t { nx := fun _ H' => Q .non H', rt := Q } (start N vs) H)
    (h0 : d.clo = [] := by rfl) (h1 : d.dfl = [] := by rfl) (h2 : d.kwd = [] := by rfl) : FnR PP w K mg base CX0 (k + 1) (d.at_ K) sp := by
  obtain ⟨fd, F⟩ := T.says.def_ i hi h0
  rw [h1, h2] at F
  have G : FnOk PP w K mg base CX0 (k + 1) (d.at_ K) fd ps sp := F.ok S len fun cdv A outer s H vs Q E hr h => by
    obtain ⟨t, p, q⟩ := hbody cdv A outer s H vs Q E hr h
    exact ⟨t, p.nox, q⟩
  have b : Binds K fd ps [] := F.bindsN hb
  have r := G.raw b .nil
  exact r.imp fun vs H Q E h => by rw [List.append_nil]; exact h
end
end K13

set_option Elab.async false
set_option linter.all false
set_option maxRecDepth 100000
set_option maxHeartbeats 1000000
/-! texts, plain -/
namespace K13
open PySem PySem.Spec PyProof.Rows L2 SX

theorem S_tl' (z : Str) : ∃ l, z = S l := ⟨z.cps.toList, (S_tl z).symm⟩
theorem sw1 (c d : Nat) (l : List Nat) : Txt.startswith (S (c :: l)) (S [d]) = (c == d) := by
  unfold Txt.startswith Builtin.Str.subAt
  have h1 : decide (0 + (S [d]).length ≤ (S (c :: l)).length) = true := by
    rw [S_len, S_len]
    simp
  rw [h1, Bool.true_and]
  have e : (S (c :: l)).cps.extract 0 (0 + (S [d]).length) = #[c] := by
    apply Array.ext'
    simp [S_len]
  rw [e]
  show (#[c] == #[d]) = (c == d)
  rw [Bool.eq_iff_iff]
  simp
theorem ew1 (c d : Nat) (l : List Nat) : Txt.endswith (S (l ++ [c])) (S [d]) = (c == d) := by
  unfold Txt.endswith Builtin.Str.subAt
  have h1 : decide (0 + (S [d]).length ≤ (S (l ++ [c])).length) = true := by
    rw [S_len, S_len]
    simp
  rw [h1, Bool.true_and]
  have e : (S (l ++ [c])).cps.extract ((S (l ++ [c])).length - (S [d]).length) ((S (l ++ [c])).length - (S [d]).length + (S [d]).length) = #[c] := by
    apply Array.ext'
    rw [S_len, S_len]
    simp
  rw [e]
  show (#[c] == #[d]) = (c == d)
  rw [Bool.eq_iff_iff]
  simp
theorem strip1 {a : List Nat} {d : Nat} (h1 : ∀ c, a.head? = some c → c ≠ d) (h2 : ∀ c, a.reverse.head? = some c → c ≠ d) : Txt.stripChars (S a) (S [d]) = S a := by
  have hc : ∀ c, c ≠ d → (S [d]).cps.contains c = false := fun c n => by
    show (#[d] : Array Nat).contains c = false
    simp [n]
  have e1 : (S a).cps.toList.takeWhile (S [d]).cps.contains = [] := tw0 a fun c h => hc c (h1 c h)
  have e2 : ((S a).cps.toList.drop 0).reverse.takeWhile (S [d]).cps.contains = [] := tw0 a.reverse fun c h => hc c (h2 c h)
  have e0 : stripLo (S [d]).cps.contains true (S a) = 0 := by
    unfold stripLo
    rw [if_pos rfl, e1] <;> rfl
  have e3 : stripHi (S [d]).cps.contains true (S a) 0 = (S a).length := by
    unfold stripHi
    rw [if_pos rfl, e2] <;> rfl
  unfold Txt.stripChars Txt.stripBy stripSame
  rw [e0, e3]
  exact if_pos (by simp)
/-- no sign of the text is d -/
theorem strip1' {a : List Nat} {d : Nat} (h : d ∉ a) : Txt.stripChars (S a) (S [d]) = S a :=
  strip1 (fun c e n => h (n ▸ List.mem_of_mem_head? e)) (fun c e n => h (n ▸ (List.mem_reverse.mp (List.mem_of_mem_head? e))))
theorem split1 {l : List Nat} {d : Nat} (h : d ∉ l) (hd : d < 256) : Txt.split (S l) (S [d]) = [S l] := by
  rw [split_S (by simp) (by simp [hd])]
  have e := spl_join (c := d) (sep := []) (parts := [l]) (by simp) (by simpa using h)
  have e2 : TL.joinL [d] [l] = l := rfl
  rw [e2] at e
  rw [e] <;> rfl
theorem join1 (a l : List Nat) : Txt.join (S a) [S l] = S l := by
  have e := join_S a [l]
  exact e
/-- the parts of a written mark -/
theorem cut_from1 (c : Nat) (l : List Nat) : cutS (S (c :: l)) (some 1) none = S l := by
  unfold cutS
  apply TL.ext_tl
  show (((c :: l).drop (HT.sIx (S (c :: l)).length 0 (some 1))).take (HT.sIx (S (c :: l)).length (S (c :: l)).length none - HT.sIx (S (c :: l)).length 0 (some 1))) = l
  rw [show ((1 : Int)) = ((1 : Nat) : Int) from rfl, HT.sIx_nat, HT.sIx_none, S_len]
  have : min 1 (c :: l).length = 1 := by simp
  rw [this]
  simp
theorem cut_mid (c d : Nat) (l : List Nat) : cutS (S (c :: (l ++ [d]))) (some 1) (some (-1)) = S l := by
  unfold cutS
  apply TL.ext_tl
  show (((c :: (l ++ [d])).drop (HT.sIx (S (c :: (l ++ [d]))).length 0 (some 1))).take (HT.sIx (S (c :: (l ++ [d]))).length (S (c :: (l ++ [d]))).length (some (-1)) - HT.sIx (S (c :: (l ++ [d]))).length 0 (some 1))) = l
  have e1 : HT.sIx (S (c :: (l ++ [d]))).length 0 (some 1) = 1 := by
    rw [show ((1 : Int)) = ((1 : Nat) : Int) from rfl, HT.sIx_nat, S_len]
    simp
  have e2 : HT.sIx (S (c :: (l ++ [d]))).length (S (c :: (l ++ [d]))).length (some (-1)) = l.length + 1 := by
    rw [S_len]
    show (if (-1 : Int) < 0 then ((-1 : Int) + ((c :: (l ++ [d])).length : Int)).toNat else min (-1 : Int).toNat (c :: (l ++ [d])).length) = l.length + 1
    rw [if_pos (by decide)]
    simp
    omega
  rw [e1, e2]
  simp
/-! ### numbers -/
/-- the codes of str(i) -/
def intL (i : Int) : List Nat := if i < 0 then 45 :: TL.numL i.natAbs else TL.numL i.natAbs
theorem int_S (i : Int) : (Str.ofString (toString i) : Str) = S (intL i) := by
  unfold intL
  by_cases h : i < 0
  · rw [if_pos h]
    obtain ⟨n, rfl⟩ : ∃ n : Nat, i = Int.negSucc n := by
      cases i with
      | ofNat n => exact absurd h (by simp)
      | negSucc n => exact ⟨n, rfl⟩
    have e : toString (Int.negSucc n) = "-" ++ toString (n + 1) := rfl
    rw [e, Str.ofString_eq_toList]
    have e2 : (Str.ofString (toString ((n + 1 : Nat) : Int))) = S (TL.numL (n + 1)) := num_S (n + 1)
    rw [Str.ofString_eq_toList] at e2
    have e3 : ((toString ((n + 1 : Nat) : Int)).toList.map Char.toNat) = TL.numL (n + 1) := by
      have := congrArg (fun z : Str => z.cps.toList) e2
      simpa using this
    have e4 : toString ((n + 1 : Nat) : Int) = toString (n + 1) := rfl
    rw [e4] at e3
    apply TL.ext_tl
    show (("-" ++ toString (n + 1)).toList.map Char.toNat) = 45 :: TL.numL (Int.negSucc n).natAbs
    rw [String.toList_append, List.map_append, e3]
    rfl
  · rw [if_neg h]
    obtain ⟨n, rfl⟩ : ∃ n : Nat, i = (n : Int) := ⟨i.toNat, by omega⟩
    exact num_S n
theorem numL_head0 : ∀ n : Nat, (TL.numL n).head? = some 48 → n = 0 := by
  intro n
  induction n using Nat.strongRecOn with
  | _ n ih =>
    intro h
    by_cases hn : n < 10
    · rw [TL.numL_lt hn] at h
      have := Option.some.inj h
      omega
    · rw [TL.numL_step (by omega)] at h
      have hne := TL.numL_ne (n / 10)
      have e9 : (TL.numL (n / 10) ++ [48 + n % 10]).head? = (TL.numL (n / 10)).head? := by
        cases q : TL.numL (n / 10) with
        | nil => exact absurd q hne
        | cons a r => rfl
      rw [e9] at h
      have := ih (n / 10) (by omega) h
      omega
theorem numL_dig {n c : Nat} (h : c ∈ TL.numL n) : 48 ≤ c ∧ c ≤ 57 := TL.numL_digits n c h
theorem numL_len6 {n : Nat} (h : n < 1000000) : (TL.numL n).length ≤ 6 := TL.numL_len (by decide) (by simpa using h)
theorem numL_pos (n : Nat) : 1 ≤ (TL.numL n).length := List.length_pos_iff.mpr (TL.numL_ne n)
theorem intL_inj {i j : Int} (h : intL i = intL j) : i = j := by
  unfold intL at h
  have nh : ∀ n : Nat, 45 ∉ TL.numL n := fun n hm => by
    have := numL_dig hm
    omega
  by_cases hi : i < 0 <;> by_cases hj : j < 0
  · rw [if_pos hi, if_pos hj] at h
    have := TL.numL_inj (List.cons.inj h).2
    omega
  · rw [if_pos hi, if_neg hj] at h
    exact absurd (h ▸ List.mem_cons_self) (nh j.natAbs)
  · rw [if_neg hi, if_pos hj] at h
    exact absurd (h ▸ List.mem_cons_self) (nh i.natAbs)
  · rw [if_neg hi, if_neg hj] at h
    have := TL.numL_inj h
    omega
theorem intL_len {i : Int} (h : i.natAbs < 1000000) : (intL i).length ≤ 7 := by
  have := numL_len6 h
  unfold intL
  split
  · rw [List.length_cons]
    omega
  · omega
theorem intL_ne (i : Int) : intL i ≠ [] := by
  unfold intL
  split
  · exact List.cons_ne_nil _ _
  · exact TL.numL_ne _
theorem intL_sign {i : Int} {c : Nat} (h : c ∈ intL i) : c = 45 ∨ (48 ≤ c ∧ c ≤ 57) := by
  unfold intL at h
  split at h
  · rcases List.mem_cons.mp h with e | e
    · exact .inl e
    · exact .inr (numL_dig e)
  · exact .inr (numL_dig h)
end K13

set_option Elab.async false
set_option linter.all false
set_option maxRecDepth 100000
set_option maxHeartbeats 4000000
/-! the module fields -/
namespace K13
open PySem PySem.Spec PyProof.Rows L2 SX

theorem iteB {b : Bool} {A B : Prop} (hb : b = true) (h : A) : if b = true then A else B := by
  rw [if_pos hb]
  exact h
theorem iteN {b : Bool} {A B : Prop} (hb : b = false) (h : B) : if b = true then A else B := by
  rw [hb]
  exact iteF h
theorem qb {b c : Bool} {Q : VK} {H : Hp} (e : b = c) (q : Q (.bl c) H) : Q (.bl b) H := by
  rw [e]
  exact q
theorem qi {i j : Int} {Q : VK} {H : Hp} (e : i = j) (q : Q (.int j) H) : Q (.int i) H := by
  rw [e]
  exact q
theorem qs {i j : Str} {Q : VK} {H : Hp} (e : i = j) (q : Q (.str j) H) : Q (.str i) H := by
  rw [e]
  exact q
theorem pe_gi {X : Cx} {x : Str} {i : Int} {t : Tok} {pos : Pos} (hg : Gl X x) (hm : X.mg x = some (.int i t)) (hd : (x == ("__debug__" : Str)) = false := by decide) : PE X (.Name x pos) (tC (.int i)) := pe_glob (v := .int i) hg hm ⟨t, rfl⟩ hd
theorem pe_gs {X : Cx} {x z : Str} {t : Tok} {pos : Pos} (hg : Gl X x) (hm : X.mg x = some (.str z t)) (hd : (x == ("__debug__" : Str)) = false := by decide) : PE X (.Name x pos) (tC (.str z)) := pe_glob (v := .str z) hg hm ⟨t, rfl⟩ hd
theorem pe_gr {X : Cx} {x : Str} {a : Addr} {pos : Pos} (hg : Gl X x) (hm : X.mg x = some (.ref a)) (hd : (x == ("__debug__" : Str)) = false := by decide) : PE X (.Name x pos) (tC (.ref a)) := pe_glob (v := .ref a) hg hm rfl hd
theorem pt_never {X : Cx} {e : Expr} : PT X e (fun _ _ _ => False) := ⟨fun _ _ _ _ _ _ h => h.elim⟩
theorem pe_never {X : Cx} {e : Expr} : PE X e (fun _ _ _ => False) := ⟨fun _ _ _ _ _ _ h => h.elim⟩

/-- a comprehension over the signs of a text, each of worth True -/
theorem lc_true {z : Str} {i : Nat} {te : TE} {vs : List Nat} {σ : L2.St} {H1 : Hp} {D : Addr} {Qd : Hp → Prop} (hD : H1 D = none) (hz : z.length ≤ 1000)
    (hs : ∀ (c : Nat) (H : Hp) (Q : VK), c ∈ z.cps.toList → Same H1 H → (∀ H', Same H H' → Q (.bl true) H') → te ((wipe σ vs).set i (some (.str ⟨#[c]⟩))) H Q)
    (hw : ∀ v : Option V, wipe ((wipe σ vs).set i v) vs = wipe σ vs)
    (hd : ∀ H, Same H1 H → H D = some (.lst ((List.replicate z.cps.size true).map V.bl)) → Qd H) :
    ∃ W : Nat → Nat → Hp → Prop, (∃ m, W 0 m (upd H1 D (.lst []))) ∧ ∀ i' m H, W i' m H →
      ((Its z).stop i' H ∧ Qd H) ∨ ((Its z).go i' H ∧ ∃ Nx : Hp → Prop, (∀ H', Nx H' → ∃ m', m' < m ∧ W (i' + 1) m' H') ∧ ∀ x H', (Its z).yld i' H x H' → gName i x (wipe σ vs) H' fun σ2 H2 => wipe σ2 vs = wipe σ vs ∧ tYes σ2 H2 fun b H3 =>
        if b = true then te σ2 H3 fun y H4 => ∃ acc, H4 D = some (.lst acc) ∧ acc.length < sizeLine ∧ Nx (upd H4 D (.lst (acc ++ [y]))) else Nx H3) := by
  refine lc_it walk_str (fun n H => Same H1 H ∧ H D = some (.lst ((List.replicate n true).map V.bl))) ⟨same_upd hD, upd_same⟩ (fun _ _ _ _ => trivial) (fun n x H H' hn ⟨s, d⟩ y => ?_) (fun H ⟨s, d⟩ => hd H s d)
  obtain ⟨rfl, c, hc, rfl⟩ := y
  refine ⟨hw _, ?_⟩
  dsimp only [tYes]
  rw [if_pos rfl]
  have hc' : c ∈ z.cps.toList := by
    have := Array.mem_of_getElem? hc
    simpa using this
  refine hs c _ _ hc' s fun H4 s4 => ?_
  have d4 := s4 D _ d
  refine ⟨_, d4, ?_, ?_, ?_⟩
  · rw [List.length_map, List.length_replicate]
    have : n < z.length := hn
    exact small1000 (by omega)
  · intro b o e
    have nb : b ≠ D := ne_of_none e hD
    rw [upd_ne nb]
    exact s4 b o (s b o e)
  · rw [upd_same, List.replicate_succ', List.map_append] <;> rfl

def PlainC (c : Nat) : Prop := 32 ≤ c ∧ c ≤ 126 ∧ c ≠ 37
section
variable {w : World} {K : PySem.W.Frag} {mg : Str → Option Value} {base : Heap}

/-! ### is_plain_sign -/
def spPlainSign : Sp := fun vs H Q _ => ∃ c, vs = [.str ⟨#[c]⟩] ∧ PlainC c ∧ Q (.bl true) H
theorem sc_plainSign : FnScope ["sign"] ["sign"] (defScope d_is_plain_sign.st) := ⟨rfl, rfl, rfl, by decide +kernel, rfl, by decide +kernel, by decide +kernel⟩
theorem r_is_plain_sign (T : Tx K mg) : FnR PP w K mg base CX0 1 (gA K "is_plain_sign") spPlainSign := by
  obtain ⟨t, ht⟩ := T.int "PERCENT_CODE" 37
  refine fnr_of (d := d_is_plain_sign) T 0 rfl sc_plainSign (fun _ _ _ _ _ _ us hl => match us, hl with | [_], _ => rfl) (fun vs H Q E h => ?_) (fun cdv A outer s H vs Q E hr h => ?_)
  · obtain ⟨c, rfl, _⟩ := h
    rfl
  · obtain ⟨c, rfl, ⟨h1, h2, h3⟩, k⟩ := h
    refine ⟨_, pss_one (ps_ret (pe_and (pe_chain op_le_str op_le_str pe_str (pv 0) pe_str (by rfl)) (pe_one (pe_cmpR op_ne (pe_callB call_ord (by rfl) (T.free "ord") (by decide +kernel) (pa_cons (pv 0) pa_nil)) (pe_gi (by rfl) ht) (nomark _))))), ?_⟩
    refine ⟨_, rfl, _, _, rfl, rfl, _, rfl, iteB ?_ ⟨_, _, rfl, rfl, _, rfl, iteB ?_ ⟨_, rfl, _, rfl, rfl, rfl, qb ?_ k⟩⟩⟩
    · show (!decide ([c] < ([32] : List Nat))) = true
      rw [decide_eq_false (by rw [List.cons_lt_cons_iff]; simp; omega)]
      rfl
    · show (!decide (([126] : List Nat) < [c])) = true
      rw [decide_eq_false (by rw [List.cons_lt_cons_iff]; simp; omega)]
      rfl
    · show (!decide (V.int ((c : Nat) : Int) = V.int 37)) = true
      rw [decide_eq_false (by intro e; injection e with e; omega)]
      rfl

/-! ### is_plain -/
def spPlain : Sp := fun vs H Q _ => ∃ z, vs = [.str z] ∧ z.length ≤ 1000 ∧ (∀ c ∈ z.cps.toList, PlainC c) ∧ ∀ H', Same H H' → Q (.bl true) H'
theorem all_true (n : Nat) : (List.replicate n true).all id = true := by
  rw [List.all_replicate]
  split <;> rfl
theorem sc_plain : FnScope ["text", "sign"] ["text"] (defScope d_is_plain.st) := ⟨rfl, rfl, rfl, by decide +kernel, rfl, by decide +kernel, by decide +kernel⟩
theorem r_is_plain (T : Tx K mg) : FnR PP w K mg base CX0 2 (gA K "is_plain") spPlain := by
  have F1 : FnR PP w K mg base CX0 1 (gA K "is_plain_sign") spPlainSign := r_is_plain_sign T
  refine fnr_of (d := d_is_plain) T 1 rfl sc_plain (fun _ _ _ _ _ _ us hl => match us, hl with | [_], _ => rfl) (fun vs H Q E h => ?_) (fun cdv A outer s H vs Q E hr h => ?_)
  · obtain ⟨z, rfl, _⟩ := h
    rfl
  · obtain ⟨z, rfl, hz, hp, k⟩ := h
    refine ⟨_, pss_one (ps_ret (pe_callB (cr_all rfl) (by rfl) (T.free "all") boot_all (pa_cons (pe_lc (own := [("sign", 1)]) (g := gName 1) (tt := tYes) rfl sc_plain.nd (pi_str (pv 0)) (blkOk_by (own := [("sign", 1)]) (N := ["text", "sign"]) (sc := defScope d_is_plain.st) (by decide +kernel))
      (fun _ _ _ _ _ => pg_name (i := 1) sc_plain.nd rfl (Or.inl rfl)) (fun _ _ _ _ _ => pts_nil) (fun _ _ _ _ _ => pe_callR F1 hr rfl (T.glo "is_plain_sign") (T.keep "is_plain_sign") pass0 (pa_cons (pv 1) pa_nil))) pa_nil))), ?_⟩
    refine ⟨_, rfl, _, rfl, fun D nD => lc_true nD hz (fun c H1 Q1 hc s1 q => ?_) (fun _ => rfl) (fun H1 s1 d1 => ?_)⟩
    · exact ⟨_, rfl, c, rfl, hp c hc, q H1 (Same.refl H1)⟩
    · exact ⟨D, List.replicate z.cps.size true, rfl, SqL.of d1, qb (all_true _) (k H1 s1)⟩

/-! ### consists_of -/
def spConsists : Sp := fun vs H Q _ => ∃ z g, vs = [.str z, .str g] ∧ z.length ≤ 1000 ∧ (∀ c ∈ z.cps.toList, c ∈ g.cps.toList) ∧ ∀ H', Same H H' → Q (.bl true) H'
theorem sc_consists : FnScope ["text", "signs", "sign"] ["text", "signs"] (defScope d_consists_of.st) := ⟨rfl, rfl, rfl, by decide +kernel, rfl, by decide +kernel, by decide +kernel⟩
theorem r_consists_of (T : Tx K mg) : FnR PP w K mg base CX0 1 (gA K "consists_of") spConsists := by
  refine fnr_of (d := d_consists_of) T 2 rfl sc_consists (fun _ _ _ _ _ _ us hl => match us, hl with | [_, _], _ => rfl) (fun vs H Q E h => ?_) (fun cdv A outer s H vs Q E hr h => ?_)
  · obtain ⟨z, g, rfl, _⟩ := h
    rfl
  · obtain ⟨z, g, rfl, hz, hp, k⟩ := h
    refine ⟨_, pss_one (ps_ret (pe_callB (cr_all rfl) (by rfl) (T.free "all") boot_all (pa_cons (pe_lc (own := [("sign", 2)]) (g := gName 2) (tt := tYes) rfl sc_consists.nd (pi_str (pv 0)) (blkOk_by (own := [("sign", 2)]) (N := ["text", "signs", "sign"]) (sc := defScope d_consists_of.st) (by decide +kernel))
      (fun _ _ _ _ _ => pg_name (i := 2) sc_consists.nd rfl (Or.inl rfl)) (fun _ _ _ _ _ => pts_nil) (fun _ _ _ _ _ => pe_cmpR op_in_sign (pv 2) (pv 1) (by rfl))) pa_nil))), ?_⟩
    refine ⟨_, rfl, _, rfl, fun D nD => lc_true nD hz (fun c H1 Q1 hc s1 q => ?_) (fun _ => rfl) (fun H1 s1 d1 => ?_)⟩
    · exact ⟨_, rfl, _, rfl, c, g, rfl, rfl, qb (decide_eq_true (hp c hc)) (q H1 (Same.refl H1))⟩
    · exact ⟨D, List.replicate z.cps.size true, rfl, SqL.of d1, qb (all_true _) (k H1 s1)⟩

/-! ### is_path: of /a alone -/
def spPath : Sp := fun vs H Q _ => vs = [.str "/a"] ∧ ∀ H', Same H H' → Q (.bl true) H'
theorem sc_path : FnScope ["text"] ["text"] (defScope d_is_path.st) := ⟨rfl, rfl, rfl, by decide +kernel, rfl, by decide +kernel, by decide +kernel⟩
theorem r_is_path (T : Tx K mg) : FnR PP w K mg base CX0 2 (gA K "is_path") spPath := by
  have F1 : FnR PP w K mg base CX0 1 (gA K "consists_of") spConsists := r_consists_of T
  obtain ⟨t1, ht1⟩ := T.int "MOST_PATH" 60
  obtain ⟨t2, ht2⟩ := T.str "PATH_SIGNS" "abcdefghijklmnopqrstuvwxyz0123456789/-."
  refine fnr_of (d := d_is_path) T 3 rfl sc_path (fun _ _ _ _ _ _ us hl => match us, hl with | [_], _ => rfl) (fun vs H Q E h => ?_) (fun cdv A outer s H vs Q E hr h => ?_)
  · obtain ⟨rfl, _⟩ := h
    rfl
  · obtain ⟨rfl, k⟩ := h
    refine ⟨_, pss_cons (ps_if (PW.pt (pw_or (pt_not (pt_val (pe_m1 PySem.F.slot_str_startswith PySem.F.type_str_startswith mt_startswith (pv 0) pe_str))) (pw_or1 (pt_cmpR op_gt (pe_callB call_len_str (by rfl) (T.free "len") PySem.boot_len (pa_cons (pv 0) pa_nil)) (pe_gi (by rfl) ht1) (nomark _))))) (pss_one (ps_ret pe_bl)) pss_nil)
      (pss_one (ps_ret (pe_callR F1 hr rfl (T.glo "consists_of") (T.keep "consists_of") pass0 (pa_cons (pv 0) (pa_cons (pe_gs (by rfl) ht2) pa_nil))))), ?_⟩
    refine ⟨_, rfl, ⟨_, rfl⟩, _, _, rfl, rfl, _, rfl, iteN (by decide +kernel) ⟨_, rfl, _, rfl, by decide +kernel, _, _, rfl, rfl, _, rfl, iteN (by decide +kernel) ?_⟩⟩
    exact ⟨_, rfl, _, _, rfl, by decide +kernel, by decide +kernel, k⟩

/-! ### is_field_name -/
def NameOk (z : Str) : Prop := 1 ≤ z.length ∧ z.length ≤ 30 ∧ z ≠ "length" ∧ (∃ c, z.cps.toList.head? = some c ∧ c ∈ ("abcdefghijklmnopqrstuvwxyz" : Str).cps.toList) ∧ ∀ c ∈ z.cps.toList, c ∈ ("abcdefghijklmnopqrstuvwxyz0123456789-" : Str).cps.toList
def spName : Sp := fun vs H Q _ => ∃ z, vs = [.str z] ∧ NameOk z ∧ ∀ H', Same H H' → Q (.bl true) H'
theorem sc_name : FnScope ["text"] ["text"] (defScope d_is_field_name.st) := ⟨rfl, rfl, rfl, by decide +kernel, rfl, by decide +kernel, by decide +kernel⟩
theorem atI_zero {α : Type} {l : List α} {c : α} (h : l.head? = some c) : atI l 0 = some c := by
  cases l with
  | nil => cases h
  | cons a r =>
    cases h
    exact atI_nat (j := 0) rfl
theorem r_is_field_name (T : Tx K mg) : FnR PP w K mg base CX0 2 (gA K "is_field_name") spName := by
  have F1 : FnR PP w K mg base CX0 1 (gA K "consists_of") spConsists := r_consists_of T
  obtain ⟨t1, ht1⟩ := T.int "MOST_NAME" 30
  obtain ⟨t2, ht2⟩ := T.str "LENGTH_NAME" "length"
  obtain ⟨t3, ht3⟩ := T.str "LETTERS" "abcdefghijklmnopqrstuvwxyz"
  obtain ⟨t4, ht4⟩ := T.str "NAME_SIGNS" "abcdefghijklmnopqrstuvwxyz0123456789-"
  refine fnr_of (d := d_is_field_name) T 4 rfl sc_name (fun _ _ _ _ _ _ us hl => match us, hl with | [_], _ => rfl) (fun vs H Q E h => ?_) (fun cdv A outer s H vs Q E hr h => ?_)
  · obtain ⟨z, rfl, _⟩ := h
    rfl
  · obtain ⟨z, rfl, ⟨h1, h2, h3, ⟨c, h4, h5⟩, h6⟩, k⟩ := h
    have hz : z.length ≤ sizeLine := Nat.le_of_lt (small1000 (by omega))
    refine ⟨_, pss_cons (ps_if (PW.pt (pw_or (pt_not (pt_chain op_le op_le pe_int (pe_callB call_len_str (by rfl) (T.free "len") PySem.boot_len (pa_cons (pv 0) pa_nil)) (pe_gi (by rfl) ht1) (by rfl))) (pw_or1 (pt_cmpR op_eq (pv 0) (pe_gs (by rfl) ht2) (nomark _))))) (pss_one (ps_ret pe_bl)) pss_nil)
      (pss_one (ps_ret (pe_and (pe_cmpR op_in_sign (pe_ix ix_str (pv 0) pe_int (fun _ _ => rfl)) (pe_gs (by rfl) ht3) (by rfl)) (pe_one (pe_callR F1 hr rfl (T.glo "consists_of") (T.keep "consists_of") pass0 (pa_cons (pv 0) (pa_cons (pe_gs (by rfl) ht4) pa_nil))))))), ?_⟩
    refine ⟨_, rfl, _, rfl, hz, _, _, rfl, rfl, _, rfl, iteB (decide_eq_true (by omega)) ⟨_, _, rfl, rfl, _, rfl, ?_⟩⟩
    refine iteN (by rw [decide_eq_true (by omega : ((z.length : Nat) : Int) ≤ 30)]; rfl) ⟨_, rfl, rfl, _, rfl, iteN (decide_eq_false (fun e => h3 (V.str.inj e))) ?_⟩
    refine ⟨_, rfl, _, _, _, rfl, rfl, hz, atI_zero h4, c, _, rfl, rfl, _, rfl, iteB (decide_eq_true h5) ⟨_, rfl, _, _, rfl, by omega, h6, k⟩⟩

/-! ### is_value -/
def ValOk (z : Str) : Prop := z.length ≤ 200 ∧ (∀ c ∈ z.cps.toList, PlainC c) ∧ Txt.stripChars z " " = z
def spValue : Sp := fun vs H Q _ => ∃ z, vs = [.str z] ∧ ValOk z ∧ ∀ H', Same H H' → Q (.bl true) H'
theorem sc_value : FnScope ["text"] ["text"] (defScope d_is_value.st) := ⟨rfl, rfl, rfl, by decide +kernel, rfl, by decide +kernel, by decide +kernel⟩
theorem r_is_value (T : Tx K mg) : FnR PP w K mg base CX0 3 (gA K "is_value") spValue := by
  have F1 : FnR PP w K mg base CX0 2 (gA K "is_plain") spPlain := r_is_plain T
  obtain ⟨t1, ht1⟩ := T.int "MOST_VALUE" 200
  refine fnr_of (d := d_is_value) T 5 rfl sc_value (fun _ _ _ _ _ _ us hl => match us, hl with | [_], _ => rfl) (fun vs H Q E h => ?_) (fun cdv A outer s H vs Q E hr h => ?_)
  · obtain ⟨z, rfl, _⟩ := h
    rfl
  · obtain ⟨z, rfl, ⟨h1, h2, h3⟩, k⟩ := h
    have hz : z.length ≤ sizeLine := Nat.le_of_lt (small1000 (by omega))
    refine ⟨_, pss_one (ps_ret (pe_and (pe_cmpR op_le (pe_callB call_len_str (by rfl) (T.free "len") PySem.boot_len (pa_cons (pv 0) pa_nil)) (pe_gi (by rfl) ht1) (nomark _)) (pe_and (pe_callR F1 hr rfl (T.glo "is_plain") (T.keep "is_plain") pass0 (pa_cons (pv 0) pa_nil))
      (pe_one (pe_cmpR op_eq (pv 0) (pe_m1 PySem.F.slot_str_strip PySem.F.type_str_strip mt_stripChars (pv 0) pe_str) (nomark _)))))), ?_⟩
    refine ⟨_, rfl, _, rfl, hz, _, _, rfl, rfl, _, rfl, iteB (decide_eq_true (by omega)) ⟨_, rfl, z, rfl, by omega, h2, fun H1 s1 => ⟨_, rfl, iteT ?_⟩⟩⟩
    exact ⟨_, rfl, _, rfl, ⟨_, rfl⟩, _, _, rfl, rfl, hz, rfl, qb (decide_eq_true (congrArg V.str h3.symm)) (k H1 s1)⟩
end
end K13

set_option Elab.async false
set_option linter.all false
set_option maxRecDepth 100000
set_option maxHeartbeats 4000000
/-! the module fields, the rest -/
namespace K13
open PySem PySem.Spec PyProof.Rows L2 SX
section
variable {w : World} {K : PySem.W.Frag} {mg : Str → Option Value} {base : Heap}

/-! ### list_elements: of one element -/
def spElems : Sp := fun vs H Q _ => ∃ l, vs = [.str (S l)] ∧ 44 ∉ l ∧ 32 ∉ l ∧ l ≠ [] ∧ l.length ≤ 1000 ∧ ∀ p H', H p = none → Same H H' → H' p = some (.lst [.str (S l)]) → Q (.ref p) H'
theorem sc_elems : FnScope ["text", "elements_found", "part_text", "element"] ["text"] (defScope d_list_elements.st) := ⟨rfl, rfl, rfl, by decide +kernel, rfl, by decide +kernel, by decide +kernel⟩
theorem r_list_elements (T : Tx K mg) : FnR PP w K mg base CX0 1 (gA K "list_elements") spElems := by
  refine fnr_of (d := d_list_elements) T 6 rfl sc_elems (fun _ _ _ _ _ _ us hl => match us, hl with | [_], _ => rfl) (fun vs H Q E h => ?_) (fun cdv A outer s H vs Q E hr h => ?_)
  · obtain ⟨l, rfl, _⟩ := h
    rfl
  · obtain ⟨l, rfl, h1, h2, h3, h4, k⟩ := h
    have hz : (S l).length + 2 ≤ sizeLine := by
      rw [S_len, sizeLine_eq]
      omega
    refine ⟨_, pss_cons (ps_set (i := 1) sc_elems.nd rfl (Or.inl rfl) (pe_lst pa_nil))
      (pss_cons (ps_for PassesOwn.never rfl (pi_list (pe_split (pv 0) pe_str)) (pg_name (i := 2) sc_elems.nd rfl (Or.inl rfl))
        (pss_cons (ps_set (i := 3) sc_elems.nd rfl (Or.inl rfl) (pe_m1 PySem.F.slot_str_strip PySem.F.type_str_strip mt_stripChars (pv 2) pe_str))
        (pss_one (ps_if (pt_cmpR op_ne (pv 3) pe_str (nomark _)) (pss_one (ps_expr (pe_bm PySem.F.plainAttrs_list PySem.F.slot_list_append PySem.F.type_list_append mt_append (pv 1) (pa_cons (pv 3) pa_nil)))) pss_nil))))
      (pss_one (ps_ret (pv 1)))), ?_⟩
    refine ⟨by decide, fun p np => ?_⟩
    refine ⟨_, rfl, ⟨_, rfl⟩, _, _, rfl, rfl, rfl, hz, fun q nq => ?_⟩
    have e1 : Txt.split (S l) (S [44]) = [S l] := split1 h1 (by decide)
    have e1' : Txt.split (S l) "," = [S l] := e1
    rw [e1']
    have npq : p ≠ q := fun e => by
      rw [← e, upd_same] at nq
      cases nq
    have nHq : H q = none := by
      rw [upd_ne npq.symm] at nq
      exact nq
    refine ⟨q, rfl, ⟨_, SqL.of upd_same⟩, for_list (xs := [V.str (S l)]) (fun i σ H2 => ∃ (a b : Option V), σ = [some (.str (S l)), some (.ref p), a, b] ∧ Same H H2 ∧ H2 q = some (.lst [V.str (S l)]) ∧ H2 p = some (.lst (List.replicate i (V.str (S l)))))
      ⟨none, none, rfl, same_then (same_upd np) nq, upd_same, by rw [upd_ne npq, upd_same]; rfl⟩ (fun i σ H2 _ ⟨_, _, _, _, hq, _⟩ => SqL.of hq) ?_ ?_⟩
    · rintro i x σ H2 hi ⟨a, b, rfl, s2, hq, hp⟩
      have hi0 : i = 0 := by
        have := (List.getElem?_eq_some_iff.mp hi).1
        simp at this
        exact this
      subst hi0
      cases hi
      have e2 : Txt.stripChars (S l) " " = S l := strip1' h2
      have hz2 : (S l).length ≤ sizeLine := by omega
      refine ⟨_, rfl, ⟨_, rfl⟩, _, _, rfl, rfl, hz2, ?_⟩
      rw [e2]
      have e3 : decide (V.str (S l) = V.str "") = false := decide_eq_false fun e => h3 (S_inj (b := []) (V.str.inj e))
      refine ⟨_, rfl, rfl, _, rfl, iteB (by rw [e3]; rfl) ?_⟩
      refine ⟨_, rfl, .inl ⟨rfl, _, SqL.of hp⟩, _, rfl, p, _, _, rfl, rfl, hp, small1000 (by simp), ?_⟩
      refine ⟨_, _, rfl, fun c o e => ?_, ?_, ?_⟩
      · rw [upd_ne (ne_of_none e np)]
        exact s2 c o e
      · rw [upd_ne npq.symm]
        exact hq
      · rw [upd_same] <;> rfl
    · rintro σ H2 ⟨a, b, rfl, s2, hq, hp⟩
      exact ⟨_, rfl, k p H2 np s2 hp⟩

/-! ### read_number: of a written number -/
def spReadN : Sp := fun vs H Q _ => ∃ n : Nat, vs = [.str (S (TL.numL n))] ∧ n < 1000000 ∧ ∀ H', Same H H' → Q (.int (n : Int)) H'
theorem sc_readN : FnScope ["text"] ["text"] (defScope d_read_number.st) := ⟨rfl, rfl, rfl, by decide +kernel, rfl, by decide +kernel, by decide +kernel⟩
theorem dig_mem {c : Nat} (h : 48 ≤ c ∧ c ≤ 57) : c ∈ ("0123456789" : Str).cps.toList := by
  have e : ("0123456789" : Str).cps.toList = [48, 49, 50, 51, 52, 53, 54, 55, 56, 57] := by decide +kernel
  rw [e]
  simp
  omega
theorem r_read_number (T : Tx K mg) : FnR PP w K mg base CX0 2 (gA K "read_number") spReadN := by
  have F1 : FnR PP w K mg base CX0 1 (gA K "consists_of") spConsists := r_consists_of T
  obtain ⟨t1, ht1⟩ := T.int "MOST_DIGITS" 6
  obtain ⟨t2, ht2⟩ := T.str "DIGITS" "0123456789"
  refine fnr_of (d := d_read_number) T 7 rfl sc_readN (fun _ _ _ _ _ _ us hl => match us, hl with | [_], _ => rfl) (fun vs H Q E h => ?_) (fun cdv A outer s H vs Q E hr h => ?_)
  · obtain ⟨n, rfl, _⟩ := h
    rfl
  · obtain ⟨n, rfl, hn, k⟩ := h
    have l1 := numL_pos n
    have l2 := numL_len6 hn
    have hlen : (S (TL.numL n)).length = (TL.numL n).length := S_len _
    have hz : (S (TL.numL n)).length ≤ sizeLine := Nat.le_of_lt (small1000 (by omega))
    obtain ⟨c, r, hcr⟩ : ∃ c r, TL.numL n = c :: r := by
      cases e : TL.numL n with
      | nil => exact absurd e (TL.numL_ne n)
      | cons c r => exact ⟨c, r, rfl⟩
    have hhd : (S (TL.numL n)).cps.toList.head? = some c := by
      show (TL.numL n).head? = some c
      rw [hcr]
      rfl
    refine ⟨_, pss_cons (ps_if (PW.pt (pw_or (pt_not (pt_chain op_le op_le pe_int (pe_callB call_len_str (by rfl) (T.free "len") PySem.boot_len (pa_cons (pv 0) pa_nil)) (pe_gi (by rfl) ht1) (by rfl)))
        (pw_or1 (pt_not (pt_val (pe_callR F1 hr rfl (T.glo "consists_of") (T.keep "consists_of") pass0 (pa_cons (pv 0) (pa_cons (pe_gs (by rfl) ht2) pa_nil)))))))) (pss_one (ps_ret pe_non)) pss_nil)
      (pss_cons (ps_if (PW.pt (pw_and (pt_cmpR op_eq (pe_ix ix_str (pv 0) pe_int (fun _ _ => rfl)) pe_str (nomark _)) (pw_and1 (pt_cmpR op_ne (pv 0) pe_str (nomark _))))) (pss_one (ps_ret pe_non)) pss_nil)
      (pss_one (ps_ret (pe_callTy call_int_str (by rfl) (T.free "int") (by decide +kernel) (pa_cons (pv 0) pa_nil))))), ?_⟩
    refine ⟨_, rfl, _, rfl, hz, _, _, rfl, rfl, _, rfl, iteB (decide_eq_true (by omega)) ⟨_, _, rfl, rfl, _, rfl, ?_⟩⟩
    refine iteN (by rw [decide_eq_true (by omega : (((S (TL.numL n)).length : Nat) : Int) ≤ 6)]; rfl) ⟨_, rfl, _, _, rfl, by omega, fun d hd => dig_mem (numL_dig hd), fun H1 s1 => ⟨_, rfl, iteF ?_⟩⟩
    have fi : PySem.intText? (S (TL.numL n)) = some (n : Int) := by
      rw [← num_S]
      exact TL.int_num (by omega)
    refine ⟨_, rfl, _, _, _, rfl, rfl, hz, atI_zero hhd, rfl, _, rfl, ?_⟩
    by_cases h0 : c = 48
    · subst h0
      have hn0 : n = 0 := numL_head0 n (by rw [hcr]; rfl)
      subst hn0
      refine iteB (decide_eq_true rfl) ⟨_, rfl, rfl, _, rfl, iteN ?_ ⟨_, rfl, _, _, rfl, fi, by omega, k H1 s1⟩⟩
      show (!decide (V.str (S (TL.numL 0)) = V.str "0")) = false
      rw [decide_eq_true] <;> decide +kernel
    · exact iteN (decide_eq_false fun e => h0 (List.cons.inj (S_inj (a := [c]) (b := [48]) (V.str.inj e))).1) ⟨_, rfl, _, _, rfl, fi, by omega, k H1 s1⟩

/-! ### read_reading: of a written reading -/
def spReadR : Sp := fun vs H Q _ => ∃ i : Int, vs = [.str (S (intL i))] ∧ i.natAbs < 1000000 ∧ ∀ H', Same H H' → Q (.int i) H'
theorem sc_readR : FnScope ["text", "number"] ["text"] (defScope d_read_reading.st) := ⟨rfl, rfl, rfl, by decide +kernel, rfl, by decide +kernel, by decide +kernel⟩
theorem r_read_reading (T : Tx K mg) : FnR PP w K mg base CX0 3 (gA K "read_reading") spReadR := by
  have F1 : FnR PP w K mg base CX0 2 (gA K "read_number") spReadN := r_read_number T
  refine fnr_of (d := d_read_reading) T 8 rfl sc_readR (fun _ _ _ _ _ _ us hl => match us, hl with | [_], _ => rfl) (fun vs H Q E h => ?_) (fun cdv A outer s H vs Q E hr h => ?_)
  · obtain ⟨n, rfl, _⟩ := h
    rfl
  · obtain ⟨i, rfl, hi, k⟩ := h
    refine ⟨_, pss_cons (ps_if (pt_not (pt_val (pe_m1 PySem.F.slot_str_startswith PySem.F.type_str_startswith mt_startswith (pv 0) pe_str))) (pss_one (ps_ret (pe_callR F1 hr rfl (T.glo "read_number") (T.keep "read_number") pass0 (pa_cons (pv 0) pa_nil)))) pss_nil)
      (pss_cons (ps_set (i := 1) sc_readR.nd rfl (Or.inl rfl) (pe_callR F1 hr rfl (T.glo "read_number") (T.keep "read_number") pass0 (pa_cons (pe_slice sl_str (pv 0) (po_some pe_int) po_none) pa_nil)))
      (pss_cons (ps_if (PW.pt (pw_or (pt_cmpR op_isN (pv 1) pe_non (nomark _)) (pw_or1 (pt_cmpR op_eq (pv 1) pe_int (nomark _))))) (pss_one (ps_ret pe_non)) pss_nil)
      (pss_one (ps_ret (pe_un un_neg (pv 1)))))), ?_⟩
    have hsw : ∀ (c : Nat) (r : List Nat), Txt.startswith (S (c :: r)) "-" = (c == 45) := fun c r => sw1 c 45 r
    by_cases h : i < 0
    · have e : intL i = 45 :: TL.numL i.natAbs := if_pos h
      rw [e]
      refine ⟨_, rfl, ⟨_, rfl⟩, _, _, rfl, rfl, _, rfl, iteN (by rw [hsw]; rfl) ?_⟩
      have hz : (S (45 :: TL.numL i.natAbs)).length ≤ sizeLine := by
        rw [S_len, List.length_cons]
        have := numL_len6 hi
        exact Nat.le_of_lt (small1000 (by omega))
      refine ⟨_, rfl, _, rfl, _, rfl, hz, i.natAbs, ?_, hi, fun H1 s1 => ?_⟩
      · rw [cut_from1]
      · refine ⟨_, rfl, rfl, _, rfl, iteN (decide_eq_false fun e => nomatch e) ⟨_, rfl, rfl, _, rfl, iteN (decide_eq_false fun e => ?_) ⟨_, rfl, _, rfl, ?_⟩⟩⟩
        · have := V.int.inj e
          omega
        · exact qi (Q := Q) (by omega) (k H1 s1)
    · have e : intL i = TL.numL i.natAbs := if_neg h
      rw [e]
      obtain ⟨c, r, hcr⟩ : ∃ c r, TL.numL i.natAbs = c :: r := by
        cases e : TL.numL i.natAbs with
        | nil => exact absurd e (TL.numL_ne _)
        | cons c r => exact ⟨c, r, rfl⟩
      have hc : 48 ≤ c ∧ c ≤ 57 := numL_dig (n := i.natAbs) (by rw [hcr]; exact List.mem_cons_self)
      refine ⟨_, rfl, ⟨_, rfl⟩, _, _, rfl, rfl, _, rfl, iteB ?_ ⟨_, rfl, i.natAbs, rfl, hi, fun H1 s1 => ?_⟩⟩
      · rw [hcr, hsw, beq_eq_false_iff_ne.mpr (show c ≠ 45 by omega)]
        rfl
      · exact qi (Q := Q) (by omega) (k H1 s1)
end
end K13

set_option Elab.async false
set_option linter.all false
set_option maxRecDepth 100000
set_option maxHeartbeats 4000000
/-! the module marks -/
namespace K13
open PySem PySem.Spec PyProof.Rows L2 SX
section
variable {w : World} {K : PySem.W.Frag} {mg : Str → Option Value} {base : Heap} {k : Nat} {N ps : List Str} {sp : Sp}
/-- of some defaults: n values are given, the defaults behind the first j fill up -/
theorem fnr_dfl {d : DefC} (T : Tx K mg) (i : Nat) (hi : fn[i]? = some d) (S : FnScope N ps (defScope d.st)) (n j : Nat) (hd : d.dfl ≠ []) (hn : n + (d.dfl.length - j) = ps.length)
    (hb : ∀ (D : Addr) (kV doc pm : Value) (an : Option Addr) (cdv ct : Value) (us its : List Value), us.length = n → its.length = d.dfl.length →
      ∃ k, bindArgs (PySem.W.fnOf d.name d.qual (defArgs d.st) (defBody d.st) (defScope d.st) (.ref D) kV doc pm an cdv ct) ⟨us, []⟩ = seqItems? (.ref D) >>= k ∧ k (some its.toArray) = pure (ps.zip (us ++ its.drop j)))
    (len : ∀ vs H Q E, sp vs H Q E → vs.length = ps.length)
    (hbody : ∀ (cdv : Value) (A : Around) (outer : List Env) (s : Shared) (H : Hp) (vs : List V) (Q : VK) (E : XK), Room k (A.deeper (envOfC d.qual (defScope d.st) s.heap.objs.size (d.at_ K) cdv)) → sp vs H Q E →
      ∃ t, PSs (cxOf CX0 PP w K mg base N d.qual (defScope d.st) (d.at_ K) cdv A outer s H E).nox (defBody d.st) t ∧ t { nx := fun _ H' => Q .non H', rt := Q } (start N vs) H)
    (h0 : d.clo = [] := by rfl) : FnR PP w K mg base CX0 (k + 1) (d.at_ K) (fun vs H Q E => sp (vs ++ d.dfl.drop j) H Q E) := by
  obtain ⟨fd, F⟩ := T.says.def_ i hi h0
  have G : FnOk PP w K mg base CX0 (k + 1) (d.at_ K) fd ps sp := F.ok S len fun cdv A outer s H vs Q E hr h => by
    obtain ⟨t, p, q⟩ := hbody cdv A outer s H vs Q E hr h
    exact ⟨t, p.nox, q⟩
  obtain ⟨ds, hds, b⟩ := F.binds1 n j hd hn hb
  exact G.raw b hds
/-- few fields -/
theorem lenP {f : Str} {v : V} {fs : List (Str × V)} (n : Nat) (h : fs.length ≤ n) : (putF f v fs).length ≤ n + 1 := Nat.le_trans (length_putF f v fs) (Nat.succ_le_succ h)
/-- behind the making of an instance -/
theorem made_same {H H2 : Hp} {x dx C : Addr} (h1 : H x = none) (h2 : H dx = none) (k : Kp x (upd (upd H dx (.own x)) x (.ins C dx [])) H2) : Same H H2 := fun b o e =>
  k b o (ne_of_none e h1) (by rw [upd_ne (ne_of_none e h1), upd_ne (ne_of_none e h2)]; exact e)

/-! ### is_mark_text -/
def MarkOk (l : List Nat) : Prop := 1 ≤ l.length ∧ l.length ≤ 40 ∧ ∀ c ∈ l, c ∈ ("abcdefghijklmnopqrstuvwxyz0123456789.-" : Str).cps.toList
def spMT : Sp := fun vs H Q _ => ∃ l, vs = [.str (S l)] ∧ MarkOk l ∧ ∀ H', Same H H' → Q (.bl true) H'
theorem sc_MT : FnScope ["text", "sign"] ["text"] (defScope d_is_mark_text.st) := ⟨rfl, rfl, rfl, by decide +kernel, rfl, by decide +kernel, by decide +kernel⟩
theorem r_is_mark_text (T : Tx K mg) : FnR PP w K mg base CX0 1 (gA K "is_mark_text") spMT := by
  obtain ⟨t1, ht1⟩ := T.int "MOST_SIGNS" 40
  obtain ⟨t2, ht2⟩ := T.str "MARK_SIGNS" "abcdefghijklmnopqrstuvwxyz0123456789.-"
  refine fnr_of (d := d_is_mark_text) T 9 rfl sc_MT (fun _ _ _ _ _ _ us hl => match us, hl with | [_], _ => rfl) (fun vs H Q E h => ?_) (fun cdv A outer s H vs Q E hr h => ?_)
  · obtain ⟨l, rfl, _⟩ := h
    rfl
  · obtain ⟨l, rfl, ⟨h1, h2, h3⟩, k⟩ := h
    have hl : (S l).length = l.length := S_len l
    have hz : (S l).length ≤ sizeLine := Nat.le_of_lt (small1000 (by omega))
    refine ⟨_, pss_cons (ps_if (PW.pt (pw_or (pt_cmpR op_lt (pe_callB call_len_str (by rfl) (T.free "len") PySem.boot_len (pa_cons (pv 0) pa_nil)) pe_int (nomark _)) (pw_or1 (pt_cmpR op_gt (pe_callB call_len_str (by rfl) (T.free "len") PySem.boot_len (pa_cons (pv 0) pa_nil)) (pe_gi (by rfl) ht1) (nomark _))))) (pss_one (ps_ret pe_bl)) pss_nil)
      (pss_one (ps_ret (pe_callB (cr_all rfl) (by rfl) (T.free "all") boot_all (pa_cons (pe_lc (own := [("sign", 1)]) (g := gName 1) (tt := tYes) rfl sc_MT.nd (pi_str (pv 0)) (blkOk_by (own := [("sign", 1)]) (N := ["text", "sign"]) (sc := defScope d_is_mark_text.st) (by decide +kernel))
      (fun _ _ _ _ _ => pg_name (i := 1) sc_MT.nd rfl (Or.inl rfl)) (fun _ _ _ _ _ => pts_nil) (fun _ _ _ _ _ => pe_cmpR op_in_sign (pv 1) (pe_gs (by rfl) ht2) (by rfl))) pa_nil)))), ?_⟩
    refine ⟨_, rfl, _, rfl, hz, _, _, rfl, rfl, _, rfl, iteN (decide_eq_false (by omega)) ⟨_, rfl, _, rfl, hz, _, _, rfl, rfl, _, rfl, iteN (decide_eq_false (by omega)) ?_⟩⟩
    refine ⟨_, rfl, _, rfl, fun D nD => lc_true nD (by omega) (fun c H1 Q1 hc s1 q => ?_) (fun _ => rfl) (fun H1 s1 d1 => ?_)⟩
    · exact ⟨_, rfl, c, _, rfl, rfl, qb (decide_eq_true (h3 c hc)) (q H1 (Same.refl H1))⟩
    · exact ⟨D, List.replicate (S l).cps.size true, rfl, SqL.of d1, qb (all_true _) (k H1 s1)⟩

/-! ### Mark -/
abbrev CM (K : PySem.W.Frag) : Addr := gA K "Mark"
def fM (l : List Nat) (wk : Bool) : List (Str × V) := [("text", .str (S l)), ("weak", .bl wk)]
/-- a mark stands at m -/
def MarkAt (K : PySem.W.Frag) (H : Hp) (m : Addr) (l : List Nat) (wk : Bool) : Prop := ∃ dx, H m = some (.ins (CM K) dx (fM l wk))
theorem MarkAt.mono {H H' : Hp} {m : Addr} {l : List Nat} {wk : Bool} (s : Same H H') (h : MarkAt K H m l wk) : MarkAt K H' m l wk := let ⟨dx, e⟩ := h; ⟨dx, s _ _ e⟩
/-- the written form -/
def wr (wk : Bool) (l : List Nat) : List Nat := if wk = true then 119 :: 34 :: (l ++ [34]) else 34 :: (l ++ [34])
def spMInit (K : PySem.W.Frag) : Sp := fun vs H Q _ => ∃ p dx l wk, vs = [.ref p, .str (S l), .bl wk] ∧ H p = some (.ins (CM K) dx []) ∧ MarkOk l ∧ ∀ H', Kp p H H' → H' p = some (.ins (CM K) dx (fM l wk)) → Q .non H'
theorem sc_MInit : FnScope ["self", "text", "weak"] ["self", "text", "weak"] (defScope d_Mark_init.st) := ⟨rfl, rfl, rfl, by decide +kernel, rfl, by decide +kernel, by decide +kernel⟩
theorem putF_mark {l : List Nat} {wk : Bool} : putF "weak" (.bl wk) (putF "text" (.str (S l)) []) = (fM l wk) := by
  show (if ("text" : Str) = "weak" then [(("text" : Str), V.bl wk)] else (("text" : Str), V.str (S l)) :: putF "weak" (V.bl wk) []) = _
  rw [if_neg (by decide +kernel)]
  rfl
theorem b_MInit (T : Tx K mg) (cdv : Value) (A : Around) (outer : List Env) (s : Shared) (H : Hp) (vs : List V) (Q : VK) (E : XK) (hr : Room 1 (A.deeper (envOfC d_Mark_init.qual (defScope d_Mark_init.st) s.heap.objs.size (d_Mark_init.at_ K) cdv))) (h : spMInit K vs H Q E) :
    ∃ t, PSs (cxOf CX0 PP w K mg base ["self", "text", "weak"] d_Mark_init.qual (defScope d_Mark_init.st) (d_Mark_init.at_ K) cdv A outer s H E).nox (defBody d_Mark_init.st) t ∧ t { nx := fun _ H' => Q .non H', rt := Q } (start ["self", "text", "weak"] vs) H := by
  have F1 : FnR PP w K mg base CX0 1 (gA K "is_mark_text") spMT := r_is_mark_text T
  obtain ⟨p, dx, l, wk, rfl, hp, ok, k⟩ := h
  refine ⟨_, pss_cons (ps_if (pt_not (pt_val (pe_callR F1 hr rfl (T.glo "is_mark_text") (T.keep "is_mark_text") pass0 (pa_cons (pv 1) pa_nil)))) pss_never pss_nil)
    (pss_cons (ps_fld (pv 0) (pv 1) rfl) (pss_one (ps_fld (pv 0) (pv 2) rfl))), ?_⟩
  refine ⟨_, rfl, l, rfl, ok, fun H1 s1 => ⟨_, rfl, iteF ?_⟩⟩
  refine ⟨_, rfl, _, rfl, p, _, dx, _, rfl, s1 _ _ hp, T.cls "Mark", T.noat "Mark" "text", by decide, ?_⟩
  refine ⟨_, rfl, _, rfl, p, _, dx, _, rfl, upd_same, T.cls "Mark", T.noat "Mark" "weak", Nat.lt_of_le_of_lt (lenP 0 (Nat.le_refl 0)) (by decide), ?_⟩
  refine k _ (fun c o n e => by rw [upd_ne n, upd_ne n]; exact s1 c o e) ?_
  rw [upd_same, putF_mark]
/-- Mark(text, weak) -/
theorem r_Mark_init (T : Tx K mg) : FnR PP w K mg base CX0 2 (mA K "Mark" "__init__") (spMInit K) := by
  have r := fnr_dfl (w := w) (base := base) (k := 1) (d := d_Mark_init) (sp := spMInit K) T 35 rfl sc_MInit 3 1 (by decide +kernel) rfl (fun _ _ _ _ _ _ _ us its h1 h2 => match us, its, h1, h2 with | [_, _, _], [_], _, _ => ⟨_, rfl, rfl⟩)
    (fun vs H Q E h => by obtain ⟨_, _, _, _, rfl, _⟩ := h; rfl) (fun cdv A outer s H vs Q E hr h => b_MInit T cdv A outer s H vs Q E hr h)
  exact r.imp fun vs H Q E h => by
    show spMInit K (vs ++ []) H Q E
    rw [List.append_nil]
    exact h
/-- Mark(text) -/
theorem r_Mark_init1 (T : Tx K mg) : FnR PP w K mg base CX0 2 (mA K "Mark" "__init__") (fun vs H Q E => spMInit K (vs ++ [.bl false]) H Q E) :=
  fnr_dfl (w := w) (base := base) (k := 1) (d := d_Mark_init) (sp := spMInit K) T 35 rfl sc_MInit 2 0 (by decide +kernel) rfl (fun _ _ _ _ _ _ _ us its h1 h2 => match us, its, h1, h2 with | [_, _], [_], _, _ => ⟨_, rfl, rfl⟩)
    (fun vs H Q E h => by obtain ⟨_, _, _, _, rfl, _⟩ := h; rfl) (fun cdv A outer s H vs Q E hr h => b_MInit T cdv A outer s H vs Q E hr h)

/-! ### Mark.weakly, str(mark) -/
theorem look2a {a b : Str} {x y : V} : ([(a, x), (b, y)] : List (Str × V)).lookup a = some x := by
  show (match a == a with | true => some x | false => _) = _
  rw [beq_self_eq_true]
theorem look2b {a b : Str} {x y : V} (h : (b == a) = false) : ([(a, x), (b, y)] : List (Str × V)).lookup b = some y := by
  show (match b == a with | true => some x | false => (match b == b with | true => some y | false => none)) = _
  rw [h, beq_self_eq_true]
theorem mk_text {l : List Nat} {wk : Bool} : (fM l wk).lookup ("text" : Str) = some (.str (S l)) := look2a
theorem mk_weak {l : List Nat} {wk : Bool} : (fM l wk).lookup ("weak" : Str) = some (.bl wk) := look2b (by decide +kernel)
def spMWeakly (K : PySem.W.Frag) : Sp := fun vs H Q _ => ∃ p q l l' wk wk', vs = [.ref p, .ref q] ∧ MarkAt K H p l wk ∧ MarkAt K H q l' wk' ∧ Q (.bl (decide (l = l'))) H
theorem sc_MWeakly : FnScope ["self", "other"] ["self", "other"] (defScope d_Mark_weakly.st) := ⟨rfl, rfl, rfl, by decide +kernel, rfl, by decide +kernel, by decide +kernel⟩
theorem r_Mark_weakly (T : Tx K mg) : FnR PP w K mg base CX0 1 (mA K "Mark" "weakly") (spMWeakly K) := by
  refine fnr_of (d := d_Mark_weakly) T 36 rfl sc_MWeakly (fun _ _ _ _ _ _ us hl => match us, hl with | [_, _], _ => rfl) (fun vs H Q E h => ?_) (fun cdv A outer s H vs Q E hr h => ?_)
  · obtain ⟨_, _, _, _, _, _, rfl, _⟩ := h
    rfl
  · obtain ⟨p, q, l, l', wk, wk', rfl, ⟨dx, hp⟩, ⟨dy, hq⟩, k⟩ := h
    refine ⟨_, pss_one (ps_ret (pe_cmpR op_eq (pe_fld (pv 0) rfl) (pe_fld (pv 1) rfl) (nomark _))), ?_⟩
    refine ⟨_, rfl, p, _, dx, _, _, rfl, hp, T.cls "Mark", T.noat "Mark" "text", mk_text, _, rfl, q, _, dy, _, _, rfl, hq, T.cls "Mark", T.noat "Mark" "text", mk_text, rfl, qb ?_ k⟩
    rw [decide_eq_decide]
    exact ⟨fun e => S_inj (V.str.inj e), fun e => by rw [e]⟩
def spMStr (K : PySem.W.Frag) : Sp := fun vs H Q _ => ∃ p l wk, vs = [.ref p] ∧ MarkAt K H p l wk ∧ l.length ≤ 40 ∧ Q (.str (S (wr wk l))) H
theorem sc_MStr : FnScope ["self", "prefix"] ["self"] (defScope d_Mark_str.st) := ⟨rfl, rfl, rfl, by decide +kernel, rfl, by decide +kernel, by decide +kernel⟩
theorem r_Mark_str (T : Tx K mg) : FnR PP w K mg base CX0 1 (mA K "Mark" "__str__") (spMStr K) := by
  refine fnr_of (d := d_Mark_str) T 37 rfl sc_MStr (fun _ _ _ _ _ _ us hl => match us, hl with | [_], _ => rfl) (fun vs H Q E h => ?_) (fun cdv A outer s H vs Q E hr h => ?_)
  · obtain ⟨_, _, _, rfl, _⟩ := h
    rfl
  · obtain ⟨p, l, wk, rfl, ⟨dx, hp⟩, hl, k⟩ := h
    refine ⟨_, pss_cons (ps_set (i := 1) sc_MStr.nd rfl (Or.inl rfl) (pe_ifExp (pt_val (pe_fld (pv 0) rfl)) pe_str pe_str))
      (pss_one (ps_ret (pe_joined (.cons (pe_fmt (pv 1)) (.cons pe_str (.cons (pe_fmt (pe_fld (pv 0) rfl)) (.cons pe_str .nil))))))), ?_⟩
    have hs : ∀ n, n ≤ 1000 → n ≤ sizeLine := fun n h => Nat.le_of_lt (small1000 h)
    refine ⟨_, rfl, p, _, dx, _, _, rfl, hp, T.cls "Mark", T.noat "Mark" "weak", mk_weak, _, rfl, ?_⟩
    have fin : ∀ (pre : List Nat), pre.length ≤ 1 → pre ++ 34 :: (l ++ [34]) = wr wk l →
        tJs [tFmt (tVar 1), tC (.str "\""), tFmt (tFld K (tVar 0) "text"), tC (.str "\"")] Str.empty [some (.ref p), some (.str (S pre))] H (fun out H1 => Q (.str out) H1) := fun pre h1 h2 => by
      have a1 : Str.empty ++ S pre = S pre := S_cat [] pre
      have a2 : S pre ++ "\"" = S (pre ++ [34]) := S_cat pre [34]
      have a3 : S (pre ++ [34]) ++ S l = S (pre ++ [34] ++ l) := S_cat _ _
      have a4 : S (pre ++ [34] ++ l) ++ "\"" = S (pre ++ [34] ++ l ++ [34]) := S_cat _ [34]
      refine ⟨_, rfl, .inl ⟨_, rfl, hs _ (by rw [S_len]; omega), _, rfl, hs _ (by rw [a1, S_len]; omega), ?_⟩⟩
      rw [a1]
      refine ⟨_, rfl, hs _ (by rw [a2, S_len, List.length_append]; simp; omega), ?_⟩
      rw [a2]
      refine ⟨_, rfl, p, _, dx, _, _, rfl, hp, T.cls "Mark", T.noat "Mark" "text", mk_text, .inl ⟨_, rfl, hs _ (by rw [S_len]; omega), _, rfl, hs _ (by rw [a3, S_len, List.length_append, List.length_append]; simp; omega), ?_⟩⟩
      rw [a3]
      refine ⟨_, rfl, hs _ (by rw [a4, S_len, List.length_append, List.length_append, List.length_append]; simp; omega), ?_⟩
      rw [a4]
      refine qs (Q := Q) ?_ k
      rw [← h2]
      congr 1
      simp
    cases wk with
    | true => exact iteT (fin [119] (by decide) rfl)
    | false => exact iteF (fin [] (by decide) rfl)
end
end K13

set_option Elab.async false
set_option linter.all false
set_option maxRecDepth 100000
set_option maxHeartbeats 4000000
/-! the module marks, the rest -/
namespace K13
open PySem PySem.Spec PyProof.Rows L2 SX
section
variable {w : World} {K : PySem.W.Frag} {mg : Str → Option Value} {base : Heap} {k : Nat} {N ps : List Str} {sp : Sp}

/-! ### Mark.read of a written mark -/
def spMRead (K : PySem.W.Frag) : Sp := fun vs H Q _ => ∃ l wk, vs = [.str (S (wr wk l))] ∧ MarkOk l ∧ ∀ p H', H p = none → Same H H' → MarkAt K H' p l wk → Q (.ref p) H'
theorem sc_MRead : FnScope ["text", "weak", "quoted", "inner"] ["text"] (defScope d_Mark_read.st) := ⟨rfl, rfl, rfl, by decide +kernel, rfl, by decide +kernel, by decide +kernel⟩
theorem r_Mark_read (T : Tx K mg) : FnR PP w K mg base CX0 4 (smA K "Mark" "read") (spMRead K) := by
  have F1 : FnR PP w K mg base CX0 1 (gA K "is_mark_text") spMT := r_is_mark_text T
  have F2 : FnR PP w K mg base CX0 2 (mA K "Mark" "__init__") (spMInit K) := r_Mark_init T
  refine fnr_of (d := d_Mark_read) T 52 rfl sc_MRead (fun _ _ _ _ _ _ us hl => match us, hl with | [_], _ => rfl) (fun vs H Q E h => ?_) (fun cdv A outer s H vs Q E hr h => ?_)
  · obtain ⟨_, _, rfl, _⟩ := h
    rfl
  · obtain ⟨l, wk, rfl, ok, k⟩ := h
    refine ⟨_, pss_cons (ps_set (i := 1) sc_MRead.nd rfl (Or.inl rfl) (pe_m1 PySem.F.slot_str_startswith PySem.F.type_str_startswith mt_startswith (pv 0) pe_str))
      (pss_cons (ps_set (i := 2) sc_MRead.nd rfl (Or.inl rfl) (pe_ifExp (pt_val (pv 1)) (pe_slice sl_str (pv 0) (po_some pe_int) po_none) (pv 0)))
      (pss_cons (ps_if (PW.pt (pw_or (pt_not (pt_val (pe_m1 PySem.F.slot_str_startswith PySem.F.type_str_startswith mt_startswith (pv 2) pe_str))) (pw_or1 (pt_not (pt_val (pe_m1 PySem.F.slot_str_endswith PySem.F.type_str_endswith mt_endswith (pv 2) pe_str)))))) pss_never pss_nil)
      (pss_cons (ps_set (i := 3) sc_MRead.nd rfl (Or.inl rfl) (pe_slice sl_str (pv 2) (po_some pe_int) (po_some (pe_un un_neg pe_int))))
      (pss_cons (ps_if (pt_not (pt_val (pe_callR F1 (hr.mono (by decide)) rfl (T.glo "is_mark_text") (T.keep "is_mark_text") pass0 (pa_cons (pv 3) pa_nil)))) pss_never pss_nil)
      (pss_one (ps_ret (StX.pe_makeR (T.mkr "Mark") F2 hr rfl (T.glo "Mark") pass0 (pa_cons (pv 3) (pa_cons (pv 1) pa_nil))))))))), ?_⟩
    have hq : ∀ n : Nat, n ≤ 100 → n ≤ sizeLine := fun n h => Nat.le_of_lt (small1000 (by omega))
    have ok2 := ok.2.1
    -- behind the first two stores
    have fin : ∀ H1 : Hp, H1 = H → (tSeq (tIfS (tOr (tNot (tB (tM1 (fun x xs H Q => ∃ a b, x = .str a ∧ xs = [.str b] ∧ Q (.bl (Txt.startswith a b)) H) (tVar 2) (tC (.str "\""))))) (tNot (tB (tM1 (fun x xs H Q => ∃ a b, x = .str a ∧ xs = [.str b] ∧ Q (.bl (Txt.endswith a b)) H) (tVar 2) (tC (.str "\"")))))) tNever tNext)
        (tSeq (tAsg (tSl rSlS (tVar 2) (tPart (tC (.int 1))) (tPart (tUn (rU fun i => .int (-i)) (tC (.int 1))))) (gName 3)) (tSeq (tIfS (tNot (tB (tFn spMT E0 (tCons (tVar 3) tNil)))) tNever tNext) (tRet (StX.tMakeR (gA K "Mark") (spMInit K) E0 (tCons (tVar 3) (tCons (tVar 1) tNil))))))) { nx := fun _ H' => Q .non H', rt := Q }
        [some (.str (S (wr wk l))), some (.bl wk), some (.str (S (34 :: (l ++ [34])))), none] H1 := fun H1 e => by
      subst e
      have e1 : Txt.startswith (S (34 :: (l ++ [34]))) "\"" = true := (sw1 34 34 _).trans (by decide)
      have e2 : Txt.endswith (S (34 :: (l ++ [34]))) "\"" = true := (ew1 34 34 (34 :: l)).trans (by decide)
      refine ⟨_, rfl, ⟨_, rfl⟩, _, _, rfl, rfl, _, rfl, iteN (by rw [e1]; rfl) ⟨_, rfl, ⟨_, rfl⟩, _, _, rfl, rfl, _, rfl, iteN (by rw [e2]; rfl) ?_⟩⟩
      refine ⟨_, rfl, _, rfl, _, rfl, _, rfl, _, rfl, hq _ (by rw [S_len]; simp; omega), ?_⟩
      have e3 : cutS (S (34 :: (l ++ [34]))) (some 1) (some (-1)) = S l := cut_mid 34 34 l
      rw [e3]
      refine ⟨_, rfl, l, rfl, ok, fun H2 s2 => ⟨_, rfl, iteF ?_⟩⟩
      refine ⟨_, rfl, _, rfl, fun x dx nx nd ne => ?_⟩
      refine ⟨x, dx, l, wk, rfl, upd_same, ok, fun H3 k3 h3 => ⟨rfl, ?_⟩⟩
      exact k x H3 (s2.free nx) (s2.trans (made_same nx nd k3)) ⟨dx, h3⟩
    cases wk with
    | true =>
      have e1 : Txt.startswith (S (wr true l)) "w" = true := (sw1 119 119 _).trans (by decide)
      refine ⟨_, rfl, ⟨_, rfl⟩, _, _, rfl, rfl, ?_⟩
      rw [e1]
      refine ⟨_, rfl, _, rfl, iteT ⟨_, rfl, _, rfl, _, rfl, hq _ (by rw [S_len]; simp [wr]; omega), ?_⟩⟩
      have e2 : cutS (S (wr true l)) (some 1) none = S (34 :: (l ++ [34])) := cut_from1 119 _
      rw [e2]
      exact fin H rfl
    | false =>
      have e1 : Txt.startswith (S (wr false l)) "w" = false := (sw1 34 119 _).trans (by decide)
      refine ⟨_, rfl, ⟨_, rfl⟩, _, _, rfl, rfl, ?_⟩
      rw [e1]
      refine ⟨_, rfl, _, rfl, iteF ⟨_, rfl, ?_⟩⟩
      exact fin H rfl

/-! ### MarkList -/
abbrev CL (K : PySem.W.Frag) : Addr := gA K "MarkList"
def fL (q : Addr) (b : Bool) : List (Str × V) := [("marks", .ref q), ("star", .bl b)]
theorem fl_marks {q : Addr} {b : Bool} : (fL q b).lookup ("marks" : Str) = some (.ref q) := look2a
theorem fl_star {q : Addr} {b : Bool} : (fL q b).lookup ("star" : Str) = some (.bl b) := look2b (by decide +kernel)
theorem putF_list {q : Addr} {b : Bool} : putF "star" (.bl b) (putF "marks" (.ref q) []) = fL q b := by
  show (if ("marks" : Str) = "star" then [(("marks" : Str), V.bl b)] else (("marks" : Str), V.ref q) :: putF "star" (V.bl b) []) = _
  rw [if_neg (by decide +kernel)]
  rfl
/-- the list that is the star -/
def StarAt (K : PySem.W.Frag) (H : Hp) (p : Addr) : Prop := ∃ dx q, H p = some (.ins (CL K) dx (fL q true))
/-- the list of one mark -/
def OneAt (K : PySem.W.Frag) (H : Hp) (p : Addr) (l : List Nat) (wk : Bool) : Prop := ∃ dx q m, H p = some (.ins (CL K) dx (fL q false)) ∧ H q = some (.lst [.ref m]) ∧ MarkAt K H m l wk
theorem StarAt.mono {H H' : Hp} {p : Addr} (s : Same H H') (h : StarAt K H p) : StarAt K H' p := let ⟨dx, q, e⟩ := h; ⟨dx, q, s _ _ e⟩
theorem OneAt.mono {H H' : Hp} {p : Addr} {l : List Nat} {wk : Bool} (s : Same H H') (h : OneAt K H p l wk) : OneAt K H' p l wk := let ⟨dx, q, m, e, f, g⟩ := h; ⟨dx, q, m, s _ _ e, s _ _ f, g.mono s⟩
def spLInit (K : PySem.W.Frag) : Sp := fun vs H Q _ => ∃ p dx l xs b, vs = [.ref p, .ref l, .bl b] ∧ H p = some (.ins (CL K) dx []) ∧ H l = some (.lst xs) ∧ xs.length ≤ 1000 ∧ (b = true → xs = []) ∧
  ∀ q H', H q = none → Kp p H H' → H' q = some (.lst xs) → H' p = some (.ins (CL K) dx (fL q b)) → Q .non H'
theorem sc_LInit : FnScope ["self", "marks", "star"] ["self", "marks", "star"] (defScope d_MarkList_init.st) := ⟨rfl, rfl, rfl, by decide +kernel, rfl, by decide +kernel, by decide +kernel⟩
theorem b_LInit (T : Tx K mg) (cdv : Value) (A : Around) (outer : List Env) (s : Shared) (H : Hp) (vs : List V) (Q : VK) (E : XK) (hr : Room 0 (A.deeper (envOfC d_MarkList_init.qual (defScope d_MarkList_init.st) s.heap.objs.size (d_MarkList_init.at_ K) cdv))) (h : spLInit K vs H Q E) :
    ∃ t, PSs (cxOf CX0 PP w K mg base ["self", "marks", "star"] d_MarkList_init.qual (defScope d_MarkList_init.st) (d_MarkList_init.at_ K) cdv A outer s H E).nox (defBody d_MarkList_init.st) t ∧ t { nx := fun _ H' => Q .non H', rt := Q } (start ["self", "marks", "star"] vs) H := by
  obtain ⟨p, dx, l, xs, b, rfl, hp, hl, hx, hb, k⟩ := h
  have npl : p ≠ l := ne_of hp hl (by intro z; cases z)
  refine ⟨_, pss_cons (ps_if (PW.pt (pw_and (pt_val (pv 2)) (pw_and1 (pt_cmpR op_gt (pe_callB call_len_seq (by rfl) (T.free "len") PySem.boot_len (pa_cons (pv 1) pa_nil)) pe_int (nomark _))))) pss_never pss_nil)
    (pss_cons (ps_fld (pv 0) (pe_callTy call_list_of (by rfl) (T.free "list") (by decide +kernel) (pa_cons (pv 1) pa_nil)) rfl) (pss_one (ps_fld (pv 0) (pv 2) rfl))), ?_⟩
  have go : (tSeq (sFld K (tVar 0) (tCB (fun xs H Q => ∃ p ys, xs = [.ref p] ∧ (SqL K H p ys ∨ SqT K H p ys) ∧ ∀ l, H l = none → Q (.ref l) (upd H l (.lst ys))) (tCons (tVar 1) tNil)) "marks") (sFld K (tVar 0) (tVar 2) "star")) { nx := fun _ H' => Q .non H', rt := Q } [some (.ref p), some (.ref l), some (.bl b)] H := by
    refine ⟨_, rfl, l, xs, rfl, .inl (SqL.of hl), fun q nq => ?_⟩
    have npq : p ≠ q := ne_of_none hp nq
    refine ⟨_, rfl, p, _, dx, _, rfl, by rw [upd_ne npq]; exact hp, T.cls "MarkList", T.noat "MarkList" "marks", by decide, ?_⟩
    refine ⟨_, rfl, _, rfl, p, _, dx, _, rfl, upd_same, T.cls "MarkList", T.noat "MarkList" "star", Nat.lt_of_le_of_lt (lenP 0 (Nat.le_refl 0)) (by decide), ?_⟩
    refine k q _ nq (fun c o n e => by rw [upd_ne n, upd_ne n, upd_ne (ne_of_none e nq)]; exact e) (by rw [upd_ne npq.symm, upd_ne npq.symm, upd_same]) ?_
    rw [upd_same, putF_list]
  cases b with
  | false => exact ⟨_, rfl, _, rfl, iteF (iteF go)⟩
  | true =>
    have hx0 := hb rfl
    subst hx0
    exact ⟨_, rfl, _, rfl, iteT ⟨_, rfl, l, [], rfl, .inl (SqL.of hl), _, _, rfl, rfl, _, rfl, iteN (by decide) go⟩⟩
theorem r_LInit (T : Tx K mg) : FnR PP w K mg base CX0 1 (mA K "MarkList" "__init__") (spLInit K) := by
  have r := fnr_dfl (w := w) (base := base) (k := 0) (d := d_MarkList_init) (sp := spLInit K) T 38 rfl sc_LInit 3 1 (by decide +kernel) rfl (fun _ _ _ _ _ _ _ us its h1 h2 => match us, its, h1, h2 with | [_, _, _], [_], _, _ => ⟨_, rfl, rfl⟩)
    (fun vs H Q E h => by obtain ⟨_, _, _, _, _, rfl, _⟩ := h; rfl) (fun cdv A outer s H vs Q E hr h => b_LInit T cdv A outer s H vs Q E hr h)
  exact r.imp fun vs H Q E h => by
    show spLInit K (vs ++ []) H Q E
    rw [List.append_nil]
    exact h
theorem r_LInit1 (T : Tx K mg) : FnR PP w K mg base CX0 1 (mA K "MarkList" "__init__") (fun vs H Q E => spLInit K (vs ++ [.bl false]) H Q E) :=
  fnr_dfl (w := w) (base := base) (k := 0) (d := d_MarkList_init) (sp := spLInit K) T 38 rfl sc_LInit 2 0 (by decide +kernel) rfl (fun _ _ _ _ _ _ _ us its h1 h2 => match us, its, h1, h2 with | [_, _], [_], _, _ => ⟨_, rfl, rfl⟩)
    (fun vs H Q E h => by obtain ⟨_, _, _, _, _, rfl, _⟩ := h; rfl) (fun cdv A outer s H vs Q E hr h => b_LInit T cdv A outer s H vs Q E hr h)

/-! ### MarkList.read -/
def spLRead (K : PySem.W.Frag) : Sp := fun vs H Q _ => (vs = [.str "*"] ∧ ∀ p H', Same H H' → StarAt K (New H H') p → Q (.ref p) H') ∨
  ∃ l wk, vs = [.str (S (wr wk l))] ∧ MarkOk l ∧ ∀ p H', Same H H' → OneAt K (New H H') p l wk → Q (.ref p) H'
theorem mark_signs {c : Nat} (h : c ∈ ("abcdefghijklmnopqrstuvwxyz0123456789.-" : Str).cps.toList) : c ≠ 44 ∧ c ≠ 32 ∧ c ≠ 34 ∧ c ≠ 37 ∧ 32 ≤ c ∧ c ≤ 126 := by
  have e : ("abcdefghijklmnopqrstuvwxyz0123456789.-" : Str).cps.toList.all (fun c => decide (c ≠ 44 ∧ c ≠ 32 ∧ c ≠ 34 ∧ c ≠ 37 ∧ 32 ≤ c ∧ c ≤ 126)) = true := by decide +kernel
  exact of_decide_eq_true (List.all_eq_true.mp e c h)
theorem wr_signs {l : List Nat} {wk : Bool} {c : Nat} (ok : MarkOk l) (h : c ∈ wr wk l) : c ≠ 44 ∧ c ≠ 32 ∧ c ≠ 37 ∧ 32 ≤ c ∧ c ≤ 126 := by
  have key : c = 119 ∨ c = 34 ∨ c ∈ l := by
    unfold wr at h
    cases wk with
    | true =>
      have h : c ∈ 119 :: 34 :: (l ++ [34]) := h
      rcases List.mem_cons.mp h with h | h
      · exact .inl h
      · rcases List.mem_cons.mp h with h | h
        · exact .inr (.inl h)
        · rcases List.mem_append.mp h with h | h
          · exact .inr (.inr h)
          · exact .inr (.inl (List.mem_singleton.mp h))
    | false =>
      have h : c ∈ 34 :: (l ++ [34]) := h
      rcases List.mem_cons.mp h with h | h
      · exact .inr (.inl h)
      · rcases List.mem_append.mp h with h | h
        · exact .inr (.inr h)
        · exact .inr (.inl (List.mem_singleton.mp h))
  rcases key with rfl | rfl | h
  · decide
  · decide
  · have := mark_signs (ok.2.2 c h)
    omega
theorem wr_len {l : List Nat} {wk : Bool} : (wr wk l).length ≤ l.length + 3 := by
  unfold wr
  cases wk <;> simp
theorem wr_ne {l : List Nat} {wk : Bool} : wr wk l ≠ [] := by
  unfold wr
  cases wk <;> simp
theorem wr_star {l : List Nat} {wk : Bool} (h : wr wk l = [42]) : False := by
  unfold wr at h
  cases wk <;> simp at h
theorem sc_LRead : FnScope ["text", "words", "marks", "word"] ["text"] (defScope d_MarkList_read.st) := ⟨rfl, rfl, rfl, by decide +kernel, rfl, by decide +kernel, by decide +kernel⟩
theorem r_LRead (T : Tx K mg) : FnR PP w K mg base CX0 6 (smA K "MarkList" "read") (spLRead K) := by
  have F1 : FnR PP w K mg base CX0 1 (gA K "list_elements") spElems := r_list_elements T
  have F2 : FnR PP w K mg base CX0 4 (smA K "Mark" "read") (spMRead K) := r_Mark_read T
  have F3 : FnR PP w K mg base CX0 1 (mA K "MarkList" "__init__") (spLInit K) := r_LInit T
  have F4 : FnR PP w K mg base CX0 1 (mA K "MarkList" "__init__") (fun vs H Q E => spLInit K (vs ++ [.bl false]) H Q E) := r_LInit1 T
  obtain ⟨t1, ht1⟩ := T.str "STAR" "*"
  refine fnr_of (d := d_MarkList_read) T 53 rfl sc_LRead (fun _ _ _ _ _ _ us hl => match us, hl with | [_], _ => rfl) (fun vs H Q E h => ?_) (fun cdv A outer s H vs Q E hr h => ?_)
  · rcases h with ⟨rfl, _⟩ | ⟨_, _, rfl, _⟩ <;> rfl
  · refine ⟨_, pss_cons (ps_set (i := 1) sc_LRead.nd rfl (Or.inl rfl) (pe_callR F1 (hr.mono (by decide)) rfl (T.glo "list_elements") (T.keep "list_elements") pass0 (pa_cons (pv 0) pa_nil)))
      (pss_cons (ps_if (pt_cmpR op_eq (pe_callB call_len_seq (by rfl) (T.free "len") PySem.boot_len (pa_cons (pv 1) pa_nil)) pe_int (nomark _)) pss_never pss_nil)
      (pss_cons (ps_if (PW.pt (pw_and (pt_cmpR op_eq (pe_callB call_len_seq (by rfl) (T.free "len") PySem.boot_len (pa_cons (pv 1) pa_nil)) pe_int (nomark _)) (pw_and1 (pt_cmpR op_eq (pe_ix ix_list (pv 1) pe_int (fun _ _ => rfl)) (pe_gs (by rfl) ht1) (nomark _)))))
          (pss_one (ps_ret (StX.pe_makeR (T.mkr "MarkList") F3 (hr.mono (by decide)) rfl (T.glo "MarkList") pass0 (pa_cons (pe_lst pa_nil) (pa_cons pe_bl pa_nil))))) pss_nil)
      (pss_cons (ps_try_thru0 (pss_one (ps_setLc (i := 2) (own := [("word", 3)]) (g := gName 3) (tt := tYes) rfl sc_LRead.nd rfl rfl (sw_true rfl rfl rfl (by decide +kernel)) (pi_list (pv 1)) (blkOk_by (own := [("word", 3)]) (N := ["text", "words", "marks", "word"]) (sc := defScope d_MarkList_read.st) (by decide +kernel))
          (fun _ _ _ _ _ => pg_name (i := 3) sc_LRead.nd rfl (Or.inl rfl)) (fun _ _ _ _ _ => pts_nil) (fun _ _ _ _ _ => pe_smeth (pe_gr (by rfl) (T.glo "Mark")) (T.cread "Mark") T.smMark F2 (hr.mono (by decide)) pass0 (pa_cons (pv 3) pa_nil)))))
      (pss_one (ps_ret (StX.pe_makeR (T.mkr "MarkList") F4 (hr.mono (by decide)) rfl (T.glo "MarkList") pass0 (pa_cons (pv 2) pa_nil))))))), ?_⟩
    rcases h with ⟨rfl, k⟩ | ⟨l, wk, rfl, ok, k⟩
    · refine ⟨_, rfl, [42], rfl, by decide, by decide, by decide, by decide, fun p H1 np s1 h1 => ?_⟩
      refine ⟨_, rfl, p, _, rfl, .inl (SqL.of h1), rfl, _, rfl, iteN (by decide) ?_⟩
      refine ⟨_, rfl, p, _, rfl, .inl (SqL.of h1), rfl, _, rfl, iteB (by decide) ⟨_, rfl, p, _, _, _, rfl, rfl, SqL.of h1, atI_nat (j := 0) rfl, rfl, _, rfl, iteB (decide_eq_true rfl) ?_⟩⟩
      refine ⟨by decide, fun a na => fun x dx nx nd ne => ?_⟩
      have nax : a ≠ x := fun e => by
        rw [← e, upd_same] at nx
        cases nx
      have nad : a ≠ dx := fun e => by
        rw [← e, upd_same] at nd
        cases nd
      refine ⟨x, dx, a, [], true, rfl, upd_same, by rw [upd_ne nax, upd_ne nad, upd_same], by decide, fun _ => rfl, fun q H3 nq k3 hq3 hx3 => ⟨rfl, ?_⟩⟩
      have s3 : Same (upd H1 a (.lst [])) H3 := made_same nx nd k3
      have sA : Same H H3 := s1.trans ((same_upd na).trans s3)
      exact k x H3 sA ⟨dx, q, new_at ((s1.trans (same_upd na)).free nx) hx3⟩
    · have hw44 : 44 ∉ wr wk l := fun m => (wr_signs ok m).1 rfl
      have hw32 : 32 ∉ wr wk l := fun m => (wr_signs ok m).2.1 rfl
      have hwl : (wr wk l).length ≤ 1000 := by
        have := wr_len (l := l) (wk := wk)
        have := ok.2.1
        omega
      refine ⟨_, rfl, wr wk l, rfl, hw44, hw32, wr_ne, hwl, fun p H1 np s1 h1 => ?_⟩
      refine ⟨_, rfl, p, _, rfl, .inl (SqL.of h1), rfl, _, rfl, iteN rfl ?_⟩
      refine ⟨_, rfl, p, _, rfl, .inl (SqL.of h1), rfl, _, rfl, iteB rfl ⟨_, rfl, p, _, _, _, rfl, rfl, SqL.of h1, atI_nat (j := 0) rfl, rfl, _, rfl, iteN (decide_eq_false fun e => wr_star (S_inj (b := [42]) (V.str.inj e))) ?_⟩⟩
      refine ⟨_, rfl, p, rfl, ⟨_, SqL.of h1⟩, fun D nD => lc_list (K := K) (a := p) (xs := [.str (S (wr wk l))]) (fun i H2 => Same H1 H2 ∧ ((i = 0 ∧ H2 D = some (.lst [])) ∨ (i = 1 ∧ ∃ m, H1 m = none ∧ H2 D = some (.lst [.ref m]) ∧ MarkAt K H2 m l wk)))
        ⟨same_upd nD, .inl ⟨rfl, upd_same⟩⟩ (fun i H2 _ ⟨s2, _⟩ => SqL.of (s2 _ _ h1)) (fun i x H2 hi ⟨s2, hc⟩ => ?_) (fun H2 ⟨s2, hc⟩ => ?_)⟩
      · have hi0 : i = 0 := by
          have := (List.getElem?_eq_some_iff.mp hi).1
          simp at this
          exact this
        subst hi0
        cases hi
        have hd2 : H2 D = some (.lst []) := by
          rcases hc with ⟨_, z⟩ | ⟨z, _⟩
          · exact z
          · cases z
        refine ⟨rfl, ?_⟩
        dsimp only [tYes]
        rw [if_pos rfl]
        refine ⟨rfl, _, rfl, l, wk, rfl, ok, fun m H3 nm s3 hm => ?_⟩
        have nDm : m ≠ D := fun e => by
          rw [e, hd2] at nm
          cases nm
        refine ⟨[], s3 _ _ hd2, by decide, fun c o e => ?_, .inr ⟨rfl, m, s2.free nm, upd_same, ?_⟩⟩
        · rw [upd_ne (ne_of_none e nD)]
          exact s3 c o (s2 c o e)
        · obtain ⟨dx, e⟩ := hm
          exact ⟨dx, by rw [upd_ne nDm]; exact e⟩
      · obtain ⟨m, nm, hD, hm⟩ : ∃ m, H1 m = none ∧ H2 D = some (.lst [.ref m]) ∧ MarkAt K H2 m l wk := by
          rcases hc with ⟨z, _⟩ | ⟨_, z⟩
          · cases z
          · exact z
        refine ⟨_, rfl, fun x dx nx nd ne => ?_⟩
        have nDx : D ≠ x := ne_of_none hD nx
        have nDd : D ≠ dx := ne_of_none hD nd
        refine ⟨x, dx, D, _, false, rfl, upd_same, by rw [upd_ne nDx, upd_ne nDd]; exact hD, (by show 1 ≤ 1000; decide), (fun z => nomatch z), fun q H3 nq k3 hq3 hx3 => ⟨rfl, ?_⟩⟩
        have s3 : Same H2 H3 := made_same nx nd k3
        have sA : Same H H3 := s1.trans (s2.trans s3)
        have nq2 : H2 q = none := by
          have a1 : q ≠ x := fun e => by
            rw [e, upd_same] at nq
            cases nq
          rw [upd_ne a1] at nq
          have a2 : q ≠ dx := fun e => by
            rw [e, upd_same] at nq
            cases nq
          rw [upd_ne a2] at nq
          exact nq
        obtain ⟨dm, em⟩ := hm
        exact k x H3 sA ⟨dx, q, m, new_at ((s1.trans s2).free nx) hx3, new_at ((s1.trans s2).free nq2) hq3, dm, new_at (s1.free nm) (s3 _ _ em)⟩
end
end K13

set_option Elab.async false
set_option linter.all false
set_option maxRecDepth 100000
set_option maxHeartbeats 4000000
/-! lists of marks asked; settled; Current; optional ..; Conditions.__init__ -/
namespace K13
open PySem PySem.Spec PyProof.Rows L2 SX
section
variable {w : World} {K : PySem.W.Frag} {mg : Str → Option Value} {base : Heap} {k : Nat} {N ps : List Str} {sp : Sp}

theorem look2n {a b c : Str} {x y : V} (h1 : (c == a) = false) (h2 : (c == b) = false) : ([(a, x), (b, y)] : List (Str × V)).lookup c = none := by
  show (match c == a with | true => some x | false => (match c == b with | true => some y | false => none)) = _
  rw [h1, h2]
/-! ### MarkList.strongly: of the star alone -/
def spStrong (K : PySem.W.Frag) : Sp := fun vs H Q _ => ∃ p m, vs = [.ref p, m] ∧ StarAt K H p ∧ Q (.bl true) H
theorem sc_Strong : FnScope ["self", "mark", "one"] ["self", "mark"] (defScope d_MarkList_strongly.st) := ⟨rfl, rfl, rfl, by decide +kernel, rfl, by decide +kernel, by decide +kernel⟩
theorem r_LStrong (T : Tx K mg) : FnR PP w K mg base CX0 1 (mA K "MarkList" "strongly") (spStrong K) := by
  refine fnr_of (d := d_MarkList_strongly) T 39 rfl sc_Strong (fun _ _ _ _ _ _ us hl => match us, hl with | [_, _], _ => rfl) (fun vs H Q E h => ?_) (fun cdv A outer s H vs Q E hr h => ?_)
  · obtain ⟨_, _, rfl, _⟩ := h
    rfl
  · obtain ⟨p, m, rfl, ⟨dx, q, hp⟩, k⟩ := h
    refine ⟨_, pss_cons (ps_if (pt_val (pe_fld (pv 0) rfl)) (pss_one (ps_ret pe_bl)) pss_nil) pss_never, ?_⟩
    exact ⟨_, rfl, p, _, dx, _, _, rfl, hp, T.cls "MarkList", T.noat "MarkList" "star", fl_star, _, rfl, iteT k⟩

/-! ### MarkList.weakly: of one mark -/
def spWeak (K : PySem.W.Frag) : Sp := fun vs H Q _ => ∃ p m l l' wk wk', vs = [.ref p, .ref m] ∧ OneAt K H p l wk ∧ MarkAt K H m l' wk' ∧ ∀ H', Same H H' → Q (.bl (decide (l = l'))) H'
theorem sc_Weak : FnScope ["self", "mark", "one"] ["self", "mark"] (defScope d_MarkList_weakly.st) := ⟨rfl, rfl, rfl, by decide +kernel, rfl, by decide +kernel, by decide +kernel⟩
theorem r_LWeak (T : Tx K mg) : FnR PP w K mg base CX0 2 (mA K "MarkList" "weakly") (spWeak K) := by
  have F1 : FnR PP w K mg base CX0 1 (mA K "Mark" "weakly") (spMWeakly K) := r_Mark_weakly T
  refine fnr_of (d := d_MarkList_weakly) T 40 rfl sc_Weak (fun _ _ _ _ _ _ us hl => match us, hl with | [_, _], _ => rfl) (fun vs H Q E h => ?_) (fun cdv A outer s H vs Q E hr h => ?_)
  · obtain ⟨_, _, _, _, _, _, rfl, _⟩ := h
    rfl
  · obtain ⟨p, m, l, l', wk, wk', rfl, ⟨dx, q, one, hp, hq, h1⟩, hm, k⟩ := h
    refine ⟨_, pss_cons (ps_if (pt_val (pe_fld (pv 0) rfl)) pss_never pss_nil)
      (pss_cons (ps_if (pt_cmpR op_isN (pv 1) pe_non (nomark _)) pss_never pss_nil)
      (pss_one (ps_ret (pe_callB (cr_any rfl) (by rfl) (T.free "any") boot_any (pa_cons (pe_lc (own := [("one", 2)]) (g := gName 2) (tt := tYes) rfl sc_Weak.nd (pi_list (pe_fld (pv 0) rfl)) (blkOk_by (own := [("one", 2)]) (N := ["self", "mark", "one"]) (sc := defScope d_MarkList_weakly.st) (by decide +kernel))
        (fun _ _ _ _ _ => pg_name (i := 2) sc_Weak.nd rfl (Or.inl rfl)) (fun _ _ _ _ _ => pts_nil) (fun _ _ _ _ _ => pe_methR (pv 2) (T.cls "Mark") (T.meth "Mark" "weakly") F1 (hr.mono (by decide)) pass0 (pa_cons (pv 1) pa_nil))) pa_nil))))), ?_⟩
    refine ⟨_, rfl, p, _, dx, _, _, rfl, hp, T.cls "MarkList", T.noat "MarkList" "star", fl_star, _, rfl, iteF ?_⟩
    refine ⟨_, rfl, rfl, _, rfl, iteN rfl ?_⟩
    refine ⟨_, rfl, p, _, dx, _, _, rfl, hp, T.cls "MarkList", T.noat "MarkList" "marks", fl_marks, ?_⟩
    refine ⟨q, rfl, ⟨_, SqL.of hq⟩, fun D nD => lc_list (K := K) (a := q) (xs := [.ref one]) (fun i H2 => Same H H2 ∧ ((i = 0 ∧ H2 D = some (.lst [])) ∨ (i = 1 ∧ H2 D = some (.lst [.bl (decide (l = l'))]))))
      ⟨same_upd nD, .inl ⟨rfl, upd_same⟩⟩ (fun i H2 _ ⟨s2, _⟩ => SqL.of (s2 _ _ hq)) (fun i x H2 hi ⟨s2, hc⟩ => ?_) (fun H2 ⟨s2, hc⟩ => ?_)⟩
    · have hi0 : i = 0 := by
        have := (List.getElem?_eq_some_iff.mp hi).1
        simp at this
        exact this
      subst hi0
      cases hi
      have hd2 : H2 D = some (.lst []) := by
        rcases hc with ⟨_, z⟩ | ⟨z, _⟩
        · exact z
        · cases z
      refine ⟨rfl, ?_⟩
      dsimp only [tYes]
      rw [if_pos rfl]
      obtain ⟨dy, e1⟩ := h1.mono s2
      refine ⟨_, rfl, one, dy, _, rfl, e1, look2n (by decide +kernel) (by decide +kernel), _, rfl, one, m, l, l', wk, wk', rfl, ⟨dy, e1⟩, hm.mono s2, ?_⟩
      exact ⟨[], hd2, by decide, fun c o e => by rw [upd_ne (ne_of_none e nD)]; exact s2 c o e, .inr ⟨rfl, upd_same⟩⟩
    · have hD : H2 D = some (.lst [.bl (decide (l = l'))]) := by
        rcases hc with ⟨z, _⟩ | ⟨_, z⟩
        · cases z
        · exact z
      refine ⟨D, [decide (l = l')], rfl, SqL.of hD, qb ?_ (k H2 s2)⟩
      show (decide (l = l') || false) = _
      rw [Bool.or_false]

/-! ### a def called by keywords alone -/
section
variable {X : Cx} {CX : CXT} {n : Nat} {f : Addr} {fd : FuncData} {ks : List Str} {E : XK} {x : Str} {p pos : Pos} {kws : List Keyword} {tk : TA} {g : List Value → List Value → List Value} {gV : List V → List V → List V}
theorem pe_callN0 (F : FnOk X.prog X.w X.K X.mg X.base CX k f fd ps sp) (hr : Room k X.A) (hg : Gl X x) (hm : X.mg x = some (.ref f)) (hk : PySem.W.keepIn X.K (.ref f) = true) (hb : KBn X.K fd ps 0 ks g gV) (hx : Passes CX X E)
    (hkw : PK X kws tk) (hall : (backToKw pos (keywordEach kws X.env)).all (·.1.isSome) = true := by rfl) (hks : (backToKw pos (keywordEach kws X.env)).filterMap (·.1) = ks := by rfl)
    (hdb : (x == ("__debug__" : Str)) = false := by decide)
    (hpl : ((backTo pos (starEach [] X.env)).any (·.1) || (backToKw pos (keywordEach kws X.env)).any (·.1.isNone)) = false := by rfl) :
    PE X (.Call (.Name x p) [] kws pos) (tCallN 0 ks.length sp gV E tNil tk) := by
  refine ⟨fun pins s σ H Q I h => ?_⟩
  refine wpAny_Call_Name_kw (ld_glob I hg hm ?_ hdb)
  refine PySem.W.callWith_KW0 (h₀ := X.base) I.ok.mod.kin hk hall ?_ hpl
  refine thn (hkw.run pos pins s σ H _ I h) fun ws s2 ⟨zs, H2, I2, rz, l1, l2, q2⟩ => ⟨I2.kIn, ?_⟩
  rw [hks]
  exact run_fnN (us := []) (vs := []) F hr hb hx I2 .nil rz rfl l2 q2
end

/-! ### settled -/
def oV : Option Int → V
  | none => .non
  | some i => .int i
def setl (c d : Option Int) (m : Int) : Bool := match c, d with
  | some c, some d => decide (m ≤ d - c)
  | _, _ => false
def spSettled : Sp := fun vs H Q _ => ∃ c d m, vs = [oV c, oV d, .int m] ∧ Q (.bl (setl c d m)) H
theorem sc_settled : FnScope ["changed", "date", "margin"] ["changed", "date", "margin"] (defScope d_settled.st) := ⟨rfl, rfl, rfl, by decide +kernel, rfl, by decide +kernel, by decide +kernel⟩
theorem b_settled (cdv : Value) (A : Around) (outer : List Env) (s : Shared) (H : Hp) (vs : List V) (Q : VK) (E : XK) (h : spSettled vs H Q E) :
    ∃ t, PSs (cxOf CX0 PP w K mg base ["changed", "date", "margin"] d_settled.qual (defScope d_settled.st) (d_settled.at_ K) cdv A outer s H E).nox (defBody d_settled.st) t ∧ t { nx := fun _ H' => Q .non H', rt := Q } (start ["changed", "date", "margin"] vs) H := by
  obtain ⟨c, d, m, rfl, k⟩ := h
  refine ⟨_, pss_one (ps_ret (pe_and (pe_cmpR op_notN (pv 0) pe_non (nomark _)) (pe_and (pe_cmpR op_notN (pv 1) pe_non (nomark _)) (pe_one (pe_cmpR op_ge (pe_op op_sub (pv 1) (pv 0)) (pv 2) (nomark _)))))), ?_⟩
  cases c with
  | none => exact ⟨_, rfl, rfl, _, rfl, iteN rfl (qb (Q := Q) rfl k)⟩
  | some c =>
    refine ⟨_, rfl, rfl, _, rfl, iteB rfl ?_⟩
    cases d with
    | none => exact ⟨_, rfl, rfl, _, rfl, iteN rfl (qb (Q := Q) rfl k)⟩
    | some d => exact ⟨_, rfl, rfl, _, rfl, iteB rfl ⟨_, rfl, _, rfl, _, _, rfl, rfl, _, rfl, _, _, rfl, rfl, k⟩⟩
theorem r_settled (T : Tx K mg) : FnR PP w K mg base CX0 1 (gA K "settled") spSettled :=
  fnr_of (d := d_settled) T 10 rfl sc_settled (fun _ _ _ _ _ _ us hl => match us, hl with | [_, _, _], _ => rfl) (fun vs H Q E h => by obtain ⟨_, _, _, rfl, _⟩ := h; rfl) (fun cdv A outer s H vs Q E hr h => b_settled cdv A outer s H vs Q E h)
/-- by keywords -/
theorem r_settledK (T : Tx K mg) : ∃ fd, FnOk PP w K mg base CX0 1 (gA K "settled") fd ["changed", "date", "margin"] spSettled ∧ KBn K fd ["changed", "date", "margin"] 0 ["changed", "date", "margin"] (fun us ws => us ++ ws) (fun vs zs => vs ++ zs) := by
  obtain ⟨fd, F⟩ := T.says.def_ (d := d_settled) 10 rfl
  refine ⟨fd, F.ok sc_settled (fun vs H Q E h => by obtain ⟨_, _, _, rfl, _⟩ := h; rfl) (fun cdv A outer s H vs Q E hr h => ?_), ?_, fun r1 r2 => r1.append r2⟩
  · obtain ⟨t, p, q⟩ := b_settled (w := w) (base := base) (mg := mg) cdv A outer s H vs Q E h
    exact ⟨t, p.nox, q⟩
  · intro s us ws X l1 l2
    obtain ⟨oc, od, dV, kV, doc, pm, an, cdv, ct, osl, rfl, lk, hcd, hD, hK⟩ := F.ex
    rcases hD with ⟨_, rfl⟩ | ⟨e, _⟩
    · match us, ws, l1, l2 with
      | [], [_, _, _], _, _ => exact .of_eq rfl
    · exact absurd rfl e

/-! ### Current -/
abbrev CC (K : PySem.W.Frag) : Addr := gA K "Current"
def fC (m c : V) : List (Str × V) := [("mark", m), ("changed", c)]
def CurAt (K : PySem.W.Frag) (H : Hp) (p : Addr) (m c : V) : Prop := ∃ dx, H p = some (.ins (CC K) dx (fC m c))
theorem CurAt.mono {H H' : Hp} {p : Addr} {m c : V} (s : Same H H') (h : CurAt K H p m c) : CurAt K H' p m c := let ⟨dx, e⟩ := h; ⟨dx, s _ _ e⟩
theorem fc_mark {m c : V} : (fC m c).lookup ("mark" : Str) = some m := look2a
theorem fc_changed {m c : V} : (fC m c).lookup ("changed" : Str) = some c := look2b (by decide +kernel)
theorem putF_cur {m c : V} : putF "changed" c (putF "mark" m []) = fC m c := by
  show (if ("mark" : Str) = "changed" then [(("mark" : Str), c)] else (("mark" : Str), m) :: putF "changed" c []) = _
  rw [if_neg (by decide +kernel)]
  rfl
def spCInit (K : PySem.W.Frag) : Sp := fun vs H Q _ => ∃ p dx m c, vs = [.ref p, m, c] ∧ H p = some (.ins (CC K) dx []) ∧ ∀ H', Kp p H H' → H' p = some (.ins (CC K) dx (fC m c)) → Q .non H'
theorem sc_CInit : FnScope ["self", "mark", "changed"] ["self", "mark", "changed"] (defScope d_Current_init.st) := ⟨rfl, rfl, rfl, by decide +kernel, rfl, by decide +kernel, by decide +kernel⟩
theorem r_CInit (T : Tx K mg) : FnR PP w K mg base CX0 1 (mA K "Current" "__init__") (spCInit K) := by
  refine fnr_of (d := d_Current_init) T 41 rfl sc_CInit (fun _ _ _ _ _ _ us hl => match us, hl with | [_, _, _], _ => rfl) (fun vs H Q E h => ?_) (fun cdv A outer s H vs Q E hr h => ?_)
  · obtain ⟨_, _, _, _, rfl, _⟩ := h
    rfl
  · obtain ⟨p, dx, m, c, rfl, hp, k⟩ := h
    refine ⟨_, pss_cons (ps_fld (pv 0) (pv 1) rfl) (pss_one (ps_fld (pv 0) (pv 2) rfl)), ?_⟩
    refine ⟨_, rfl, _, rfl, p, _, dx, _, rfl, hp, T.cls "Current", T.noat "Current" "mark", by decide, ?_⟩
    refine ⟨_, rfl, _, rfl, p, _, dx, _, rfl, upd_same, T.cls "Current", T.noat "Current" "changed", Nat.lt_of_le_of_lt (lenP 0 (Nat.le_refl 0)) (by decide), ?_⟩
    refine k _ (fun c o n e => by rw [upd_ne n, upd_ne n]; exact e) ?_
    rw [upd_same, putF_cur]

/-! ### optional_marks, optional_reading -/
def spOM (K : PySem.W.Frag) : Sp := fun vs H Q E => (vs = [.non] ∧ Q .non H) ∨ spLRead K vs H Q E
theorem sc_OM : FnScope ["text"] ["text"] (defScope d_optional_marks.st) := ⟨rfl, rfl, rfl, by decide +kernel, rfl, by decide +kernel, by decide +kernel⟩
theorem r_OM (T : Tx K mg) : FnR PP w K mg base CX0 7 (gA K "optional_marks") (spOM K) := by
  have F1 : FnR PP w K mg base CX0 6 (smA K "MarkList" "read") (spLRead K) := r_LRead T
  refine fnr_of (d := d_optional_marks) T 11 rfl sc_OM (fun _ _ _ _ _ _ us hl => match us, hl with | [_], _ => rfl) (fun vs H Q E h => ?_) (fun cdv A outer s H vs Q E hr h => ?_)
  · rcases h with ⟨rfl, _⟩ | ⟨rfl, _⟩ | ⟨_, _, rfl, _⟩ <;> rfl
  · refine ⟨_, pss_cons (ps_if (pt_cmpR op_isN (pv 0) pe_non (nomark _)) (pss_one (ps_ret pe_non)) pss_nil)
      (pss_one (ps_try_thru0 (pss_one (ps_ret (pe_smeth (pe_gr (by rfl) (T.glo "MarkList")) (T.cread "MarkList") T.smList F1 (hr.mono (by decide)) pass0 (pa_cons (pv 0) pa_nil)))))), ?_⟩
    rcases h with ⟨rfl, q⟩ | h
    · exact ⟨_, rfl, rfl, _, rfl, iteB rfl q⟩
    · have hn : ∃ z, vs = [.str z] := by rcases h with ⟨rfl, _⟩ | ⟨_, _, rfl, _⟩ <;> exact ⟨_, rfl⟩
      obtain ⟨z, rfl⟩ := hn
      exact ⟨_, rfl, rfl, _, rfl, iteN rfl ⟨rfl, _, rfl, h⟩⟩
def spOR : Sp := fun vs H Q E => (vs = [.non] ∧ Q .non H) ∨ spReadR vs H Q E
theorem sc_OR : FnScope ["text"] ["text"] (defScope d_optional_reading.st) := ⟨rfl, rfl, rfl, by decide +kernel, rfl, by decide +kernel, by decide +kernel⟩
theorem r_OR (T : Tx K mg) : FnR PP w K mg base CX0 4 (gA K "optional_reading") spOR := by
  have F1 : FnR PP w K mg base CX0 3 (gA K "read_reading") spReadR := r_read_reading T
  refine fnr_of (d := d_optional_reading) T 12 rfl sc_OR (fun _ _ _ _ _ _ us hl => match us, hl with | [_], _ => rfl) (fun vs H Q E h => ?_) (fun cdv A outer s H vs Q E hr h => ?_)
  · rcases h with ⟨rfl, _⟩ | ⟨_, rfl, _⟩ <;> rfl
  · refine ⟨_, pss_cons (ps_if (pt_cmpR op_isN (pv 0) pe_non (nomark _)) (pss_one (ps_ret pe_non)) pss_nil)
      (pss_one (ps_ret (pe_callR F1 hr rfl (T.glo "read_reading") (T.keep "read_reading") pass0 (pa_cons (pv 0) pa_nil)))), ?_⟩
    rcases h with ⟨rfl, q⟩ | h
    · exact ⟨_, rfl, rfl, _, rfl, iteB rfl q⟩
    · have hn : ∃ z, vs = [.str z] := by rcases h with ⟨_, rfl, _⟩; exact ⟨_, rfl⟩
      obtain ⟨z, rfl⟩ := hn
      exact ⟨_, rfl, rfl, _, rfl, iteN rfl ⟨_, rfl, h⟩⟩

/-! ### Conditions.__init__ -/
abbrev CD (K : PySem.W.Frag) : Addr := gA K "Conditions"
def fD (a b c d e : V) : List (Str × V) := [("method", .str "get"), ("if_mark", a), ("if_no_mark", b), ("if_unchanged", c), ("if_changed", d), ("if_part", e)]
def spDInit (K : PySem.W.Frag) : Sp := fun vs H Q _ => ∃ p dx a b c d e, vs = [.ref p, .str "get", a, b, c, d, e] ∧ H p = some (.ins (CD K) dx []) ∧ ∀ H', Kp p H H' → H' p = some (.ins (CD K) dx (fD a b c d e)) → Q .non H'
theorem putF_cond {a b c d e : V} : putF "if_part" e (putF "if_changed" d (putF "if_unchanged" c (putF "if_no_mark" b (putF "if_mark" a (putF "method" (.str "get") []))))) = fD a b c d e := by
  have h : ∀ (f g : Str) (v u : V) (r : List (Str × V)), g ≠ f → putF f v ((g, u) :: r) = (g, u) :: putF f v r := fun f g v u r n => by
    show (if g = f then (g, v) :: r else (g, u) :: putF f v r) = _
    rw [if_neg n]
  have h0 : ∀ (f : Str) (v : V), putF f v [] = [(f, v)] := fun _ _ => rfl
  unfold fD
  repeat (first | rw [h0] | rw [h _ _ _ _ _ (by decide +kernel)])
theorem sc_DInit : FnScope ["self", "method", "if_mark", "if_no_mark", "if_unchanged", "if_changed", "if_part"] ["self", "method", "if_mark", "if_no_mark", "if_unchanged", "if_changed", "if_part"] (defScope d_Conditions_init.st) := ⟨rfl, rfl, rfl, by decide +kernel, rfl, by decide +kernel, by decide +kernel⟩
theorem b_DInit (T : Tx K mg) (cdv : Value) (A : Around) (outer : List Env) (s : Shared) (H : Hp) (vs : List V) (Q : VK) (E : XK) (h : spDInit K vs H Q E) :
    ∃ t, PSs (cxOf CX0 PP w K mg base ["self", "method", "if_mark", "if_no_mark", "if_unchanged", "if_changed", "if_part"] d_Conditions_init.qual (defScope d_Conditions_init.st) (d_Conditions_init.at_ K) cdv A outer s H E).nox (defBody d_Conditions_init.st) t ∧ t { nx := fun _ H' => Q .non H', rt := Q } (start ["self", "method", "if_mark", "if_no_mark", "if_unchanged", "if_changed", "if_part"] vs) H := by
  obtain ⟨p, dx, a, b, c, d, e, rfl, hp, k⟩ := h
  refine ⟨_, pss_cons (ps_fld (pv 0) (pv 1) rfl) (pss_cons (ps_fld (pv 0) (pv 2) rfl) (pss_cons (ps_fld (pv 0) (pv 3) rfl) (pss_cons (ps_fld (pv 0) (pv 4) rfl) (pss_cons (ps_fld (pv 0) (pv 5) rfl) (pss_one (ps_fld (pv 0) (pv 6) rfl)))))), ?_⟩
  have l0 := Nat.le_refl 0
  refine ⟨_, rfl, _, rfl, p, _, dx, _, rfl, hp, T.cls "Conditions", T.noat "Conditions" "method", by decide, ?_⟩
  refine ⟨_, rfl, _, rfl, p, _, dx, _, rfl, upd_same, T.cls "Conditions", T.noat "Conditions" "if_mark", Nat.lt_of_le_of_lt (lenP 0 l0) (by decide), ?_⟩
  refine ⟨_, rfl, _, rfl, p, _, dx, _, rfl, upd_same, T.cls "Conditions", T.noat "Conditions" "if_no_mark", Nat.lt_of_le_of_lt (lenP 1 (lenP 0 l0)) (by decide), ?_⟩
  refine ⟨_, rfl, _, rfl, p, _, dx, _, rfl, upd_same, T.cls "Conditions", T.noat "Conditions" "if_unchanged", Nat.lt_of_le_of_lt (lenP 2 (lenP 1 (lenP 0 l0))) (by decide), ?_⟩
  refine ⟨_, rfl, _, rfl, p, _, dx, _, rfl, upd_same, T.cls "Conditions", T.noat "Conditions" "if_changed", Nat.lt_of_le_of_lt (lenP 3 (lenP 2 (lenP 1 (lenP 0 l0)))) (by decide), ?_⟩
  refine ⟨_, rfl, _, rfl, p, _, dx, _, rfl, upd_same, T.cls "Conditions", T.noat "Conditions" "if_part", Nat.lt_of_le_of_lt (lenP 4 (lenP 3 (lenP 2 (lenP 1 (lenP 0 l0))))) (by decide), ?_⟩
  refine k _ (fun c o n e => by rw [upd_ne n, upd_ne n, upd_ne n, upd_ne n, upd_ne n, upd_ne n]; exact e) ?_
  rw [upd_same, putF_cond]
theorem r_DInit (T : Tx K mg) : ∃ fd g, FnOk PP w K mg base CX0 1 (mA K "Conditions" "__init__") fd ["self", "method", "if_mark", "if_no_mark", "if_unchanged", "if_changed", "if_part"] (spDInit K) ∧
    KBn K fd ["self", "method", "if_mark", "if_no_mark", "if_unchanged", "if_changed", "if_part"] 2 ["if_mark", "if_no_mark", "if_unchanged", "if_changed", "if_part"] g (fun vs zs => vs ++ zs) := by
  obtain ⟨fd, F⟩ := T.says.def_ (d := d_Conditions_init) 42 rfl
  have G : FnOk PP w K mg base CX0 1 (mA K "Conditions" "__init__") fd ["self", "method", "if_mark", "if_no_mark", "if_unchanged", "if_changed", "if_part"] (spDInit K) := F.ok sc_DInit (fun vs H Q E h => by obtain ⟨_, _, _, _, _, _, _, rfl, _⟩ := h; rfl) (fun cdv A outer s H vs Q E hr h => by
    obtain ⟨t, p, q⟩ := b_DInit (w := w) (base := base) T cdv A outer s H vs Q E h
    exact ⟨t, p.nox, q⟩)
  obtain ⟨mv, b⟩ := FunD.kbinds0 (ps := ["self", "method", "if_mark", "if_no_mark", "if_unchanged", "if_changed", "if_part"]) F 2 ["if_mark", "if_no_mark", "if_unchanged", "if_changed", "if_part"] [] (fun us mv ws => us ++ ws) (by decide +kernel) (fun q h => nomatch h) (fun r1 _ r2 => r1.append r2)
    (fun D doc pm an cdv ct us mv ws l1 l2 l3 => match us, mv, ws, l1, l2, l3 with | [_, _], [], [_, _, _, _, _], _, _, _ => rfl)
  exact ⟨fd, _, G, b⟩
end
end K13

set_option Elab.async false
set_option linter.all false
set_option maxRecDepth 100000
set_option maxHeartbeats 4000000
/-! lists that stand for lists -/
namespace K13
open PySem PySem.Spec PyProof.Rows L2 SX

inductive Al {α β : Type} (R : α → β → Prop) : List α → List β → Prop
  | nil : Al R [] []
  | cons {a : α} {b : β} {as : List α} {bs : List β} : R a b → Al R as bs → Al R (a :: as) (b :: bs)
namespace Al
variable {α β : Type} {R R' : α → β → Prop}
theorem length : ∀ {as : List α} {bs : List β}, Al R as bs → as.length = bs.length
  | _, _, .nil => rfl
  | _, _, .cons _ t => congrArg Nat.succ t.length
theorem imp (h : ∀ a b, R a b → R' a b) : ∀ {as : List α} {bs : List β}, Al R as bs → Al R' as bs
  | _, _, .nil => .nil
  | _, _, .cons r t => .cons (h _ _ r) (t.imp h)
theorem app : ∀ {as as' : List α} {bs bs' : List β}, Al R as bs → Al R as' bs' → Al R (as ++ as') (bs ++ bs')
  | _, _, _, _, .nil, u => u
  | _, _, _, _, .cons r t, u => .cons r (t.app u)
theorem one {a : α} {b : β} (r : R a b) : Al R [a] [b] := .cons r .nil
theorem get : ∀ {as : List α} {bs : List β} {i : Nat} {a : α}, Al R as bs → as[i]? = some a → ∃ b, bs[i]? = some b ∧ R a b
  | _, _, i, a, .nil, h => by simp at h
  | _, _, 0, a, .cons r t, h => by
    cases h
    exact ⟨_, rfl, r⟩
  | _, _, i + 1, a, .cons r t, h => by
    simp only [List.getElem?_cons_succ] at h
    obtain ⟨b, h1, h2⟩ := t.get h
    exact ⟨b, by simp only [List.getElem?_cons_succ]; exact h1, h2⟩
theorem take : ∀ {as : List α} {bs : List β} (i : Nat), Al R as bs → Al R (as.take i) (bs.take i)
  | _, _, 0, _ => by simp; exact .nil
  | _, _, i + 1, .nil => by simp; exact .nil
  | _, _, i + 1, .cons r t => by simp; exact .cons r (t.take i)
theorem drop : ∀ {as : List α} {bs : List β} (i : Nat), Al R as bs → Al R (as.drop i) (bs.drop i)
  | _, _, 0, h => by simpa using h
  | _, _, i + 1, .nil => by simp; exact .nil
  | _, _, i + 1, .cons r t => by simp; exact t.drop i
end Al

/-- a comprehension over a list, with a test -/
theorem lc_al {β : Type} {K : PySem.W.Frag} {a : Addr} {ts : List V} {gs : List β} {g : TG} {tt : TT} {te : TE} {vs : List Nat} {σ : L2.St} {H1 : Hp} {D : Addr} {Qd : Hp → Prop} (P R : Hp → V → β → Prop) (keep : β → Bool)
    (nD : H1 D = none) (ha : H1 a = some (.lst ts)) (hp : Al (P H1) ts gs) (hlen : gs.length ≤ 1000)
    (Pm : ∀ H H' v q, Same H H' → P H v q → P H' v q) (Rm : ∀ H H' v q, Same H H' → R H v q → R H' v q) (Ru : ∀ H v q xs ys, R H v q → H D = some (.lst xs) → R (upd H D (.lst ys)) v q)
    (hs : ∀ t q H (Qy : VK) (Qn : Hp → Prop), P H t q → q ∈ gs → Same H1 H → (∃ xs, H D = some (.lst xs)) → (keep q = true → ∀ H' y, Same H H' → R H' y q → Qy y H') → (keep q = false → ∀ H', Same H H' → Qn H') →
      g t (wipe σ vs) H fun σ2 H2 => wipe σ2 vs = wipe σ vs ∧ tt σ2 H2 fun b H3 => if b = true then te σ2 H3 Qy else Qn H3)
    (hd : ∀ H out, Same H1 H → H D = some (.lst out) → Al (R H) out (gs.filter keep) → Qd H) :
    ∃ W : Nat → Nat → Hp → Prop, (∃ m, W 0 m (upd H1 D (.lst []))) ∧ ∀ i m H, W i m H →
      ((Itl K a).stop i H ∧ Qd H) ∨ ((Itl K a).go i H ∧ ∃ Nx : Hp → Prop, (∀ H', Nx H' → ∃ m', m' < m ∧ W (i + 1) m' H') ∧ ∀ x H', (Itl K a).yld i H x H' → g x (wipe σ vs) H' fun σ2 H2 => wipe σ2 vs = wipe σ vs ∧ tt σ2 H2 fun b H3 =>
        if b = true then te σ2 H3 fun y H4 => ∃ acc, H4 D = some (.lst acc) ∧ acc.length < sizeLine ∧ Nx (upd H4 D (.lst (acc ++ [y]))) else Nx H3) := by
  refine lc_list (K := K) (a := a) (xs := ts) (fun i H => Same H1 H ∧ ∃ out, H D = some (.lst out) ∧ out.length ≤ i ∧ Al (R H) out ((gs.take i).filter keep)) ⟨same_upd nD, [], upd_same, Nat.le_refl 0, by rw [List.take_zero]; exact .nil⟩
    (fun i H _ ⟨s, _⟩ => SqL.of (s _ _ ha)) (fun i x H hi ⟨s, out, hD, hl, al⟩ => ?_) (fun H ⟨s, out, hD, hl, al⟩ => ?_)
  · obtain ⟨q, hq, hP⟩ := hp.get hi
    have hil : i < 1000 := Nat.lt_of_lt_of_le (List.getElem?_eq_some_iff.mp hq).1 hlen
    have tk : gs.take (i + 1) = gs.take i ++ [q] := by rw [List.take_succ, hq] <;> rfl
    refine hs x q H _ _ (Pm _ _ _ _ s hP) (List.mem_of_getElem? hq) s ⟨out, hD⟩ (fun hk H' y s' r => ?_) (fun hk H' s' => ?_)
    · have hD' := s' _ _ hD
      refine ⟨out, hD', small1000 (by omega), fun c o e => ?_, _, upd_same, ?_, ?_⟩
      · rw [upd_ne (ne_of_none e nD)]
        exact s' c o (s c o e)
      · rw [List.length_append]
        exact Nat.add_le_add hl (Nat.le_refl 1)
      · rw [tk, List.filter_append]
        have e1 : [q].filter keep = [q] := by
          rw [List.filter_cons, if_pos hk]
          rfl
        rw [e1]
        exact (al.imp fun v b h => Ru _ _ _ _ _ (Rm _ _ _ _ s' h) hD').app (.one (Ru _ _ _ _ _ r hD'))
    · refine ⟨s.trans s', out, s' _ _ hD, Nat.le_succ_of_le hl, ?_⟩
      rw [tk, List.filter_append]
      have e1 : [q].filter keep = [] := by
        rw [List.filter_cons, if_neg (by rw [hk]; exact Bool.false_ne_true)]
        rfl
      rw [e1, List.append_nil]
      exact al.imp fun v b h => Rm _ _ _ _ s' h
  · refine hd H out s hD ?_
    rw [hp.length, List.take_length] at al
    exact al

/-! ### pairs of texts -/
def PrAt (H : Hp) (v : V) (q : Str × Str) : Prop := ∃ t, v = .ref t ∧ H t = some (.tup [.str q.1, .str q.2])
theorem PrAt.mono {H H' : Hp} {v : V} {q : Str × Str} (s : Same H H') (h : PrAt H v q) : PrAt H' v q := let ⟨t, e, f⟩ := h; ⟨t, e, s _ _ f⟩
theorem prAt_upd {H : Hp} {D : Addr} {v : V} {q : Str × Str} {xs ys : List V} (h : PrAt H v q) (hD : H D = some (.lst xs)) : PrAt (upd H D (.lst ys)) v q := by
  obtain ⟨t, e, f⟩ := h
  exact ⟨t, e, by rw [upd_ne (ne_of f hD (by intro z; cases z))]; exact f⟩
abbrev Prs (H : Hp) (ts : List V) (gs : List (Str × Str)) : Prop := Al (PrAt H) ts gs
theorem prs_mono {H H' : Hp} {ts : List V} {gs : List (Str × Str)} (s : Same H H') (h : Prs H ts gs) : Prs H' ts gs := h.imp fun _ _ => PrAt.mono s
/-- the values of a name -/
def valsOf (n : Str) (gs : List (Str × Str)) : List Str := (gs.filter fun q => decide (q.1 = n)).map (·.2)
theorem al_strs {gs : List (Str × Str)} {out : List V} (h : Al (fun v (q : Str × Str) => v = V.str q.2) out gs) : out = (gs.map (·.2)).map V.str := by
  induction h with
  | nil => rfl
  | cons r t ih => rw [ih, r]; rfl
end K13

set_option Elab.async false
set_option linter.all false
set_option maxRecDepth 100000
set_option maxHeartbeats 4000000
/-! the module messages, first part -/
namespace K13
open PySem PySem.Spec PyProof.Rows L2 SX
section
variable {w : World} {K : PySem.W.Frag} {mg : Str → Option Value} {base : Heap} {k : Nat} {N ps : List Str} {sp : Sp}

abbrev CR (K : PySem.W.Frag) : Addr := gA K "Request"
def fR0 : List (Str × V) := [("method", .str "get"), ("path", .str "/a")]
def fR (fl : Addr) : List (Str × V) := [("method", .str "get"), ("path", .str "/a"), ("fields", .ref fl), ("body", .str "")]
/-- a get of /a with these fields -/
def ReqAt (K : PySem.W.Frag) (H : Hp) (r : Addr) (gs : List (Str × Str)) : Prop := ∃ dx fl ts, H r = some (.ins (CR K) dx (fR fl)) ∧ H fl = some (.lst ts) ∧ Prs H ts gs
theorem ReqAt.mono {H H' : Hp} {r : Addr} {gs : List (Str × Str)} (s : Same H H') (h : ReqAt K H r gs) : ReqAt K H' r gs := let ⟨dx, fl, ts, a, b, c⟩ := h; ⟨dx, fl, ts, s _ _ a, s _ _ b, prs_mono s c⟩
theorem lkS {a b : Str} {x : V} {r : List (Str × V)} (h : (b == a) = false) : ((a, x) :: r).lookup b = r.lookup b := by
  show (match b == a with | true => some x | false => r.lookup b) = _
  rw [h]
theorem lk0 {a : Str} {x : V} {r : List (Str × V)} : ((a, x) :: r).lookup a = some x := by
  show (match a == a with | true => some x | false => r.lookup a) = _
  rw [beq_self_eq_true]
theorem fr_method {fl : Addr} : (fR fl).lookup ("method" : Str) = some (.str "get") := lk0
theorem fr_path {fl : Addr} : (fR fl).lookup ("path" : Str) = some (.str "/a") := (lkS (by decide +kernel)).trans lk0
theorem fr_fields {fl : Addr} : (fR fl).lookup ("fields" : Str) = some (.ref fl) := (lkS (by decide +kernel)).trans ((lkS (by decide +kernel)).trans lk0)
theorem fr_body {fl : Addr} : (fR fl).lookup ("body" : Str) = some (.str "") := (lkS (by decide +kernel)).trans ((lkS (by decide +kernel)).trans ((lkS (by decide +kernel)).trans lk0))
theorem fr_no {fl : Addr} {m : Str} (h1 : (m == ("method" : Str)) = false) (h2 : (m == ("path" : Str)) = false) (h3 : (m == ("fields" : Str)) = false) (h4 : (m == ("body" : Str)) = false) : (fR fl).lookup m = none :=
  (lkS h1).trans ((lkS h2).trans ((lkS h3).trans (lkS h4)))

/-! ### all_values -/
def spAV (K : PySem.W.Frag) : Sp := fun vs H Q _ => ∃ r n gs, vs = [.ref r, .str n] ∧ ReqAt K H r gs ∧ gs.length ≤ 1000 ∧ ∀ p H', H p = none → Same H H' → H' p = some (.lst ((valsOf n gs).map V.str)) → Q (.ref p) H'
theorem sc_AV : FnScope ["self", "name", "field"] ["self", "name"] (defScope d_Message_all_values.st) := ⟨rfl, rfl, rfl, by decide +kernel, rfl, by decide +kernel, by decide +kernel⟩
theorem r_AV (T : Tx K mg) : FnR PP w K mg base CX0 1 (mA K "Request" "all_values") (spAV K) := by
  refine fnr_of (d := d_Message_all_values) T 47 rfl sc_AV (fun _ _ _ _ _ _ us hl => match us, hl with | [_, _], _ => rfl) (fun vs H Q E h => ?_) (fun cdv A outer s H vs Q E hr h => ?_)
  · obtain ⟨_, _, _, rfl, _⟩ := h
    rfl
  · obtain ⟨r, n, gs, rfl, ⟨dx, fl, ts, hr0, hfl, hts⟩, hlen, k⟩ := h
    refine ⟨_, pss_one (ps_ret (pe_lc (own := [("field", 2)]) (g := gName 2) (tt := tTest (tOp rEq (tOp (rIxT K) (tVar 2) (tC (.int 0))) (tVar 1))) (te := tOp (rIxT K) (tVar 2) (tC (.int 1))) rfl sc_AV.nd (pi_list (pe_fld (pv 0) rfl)) (blkOk_by (own := [("field", 2)]) (N := ["self", "name", "field"]) (sc := defScope d_Message_all_values.st) (by decide +kernel))
        (fun _ _ _ _ _ => pg_name (i := 2) sc_AV.nd rfl (Or.inl rfl)) (fun _ _ _ _ _ => pts_one (pt_cmpR op_eq (pe_ix ix_tup (pv 2) pe_int (fun _ _ => rfl)) (pv 1) (nomark _))) (fun _ _ _ _ _ => pe_ix ix_tup (pv 2) pe_int (fun _ _ => rfl)))), ?_⟩
    refine ⟨_, rfl, r, _, dx, _, _, rfl, hr0, T.cls "Request", T.noat "Request" "fields", fr_fields, ?_⟩
    refine ⟨fl, rfl, ⟨_, SqL.of hfl⟩, fun D nD => lc_al (K := K) (a := fl) PrAt (fun _ v q => v = V.str q.2) (fun q => decide (q.1 = n)) nD hfl hts hlen (fun H H' v q s h => h.mono s) (fun _ _ _ _ _ h => h) (fun _ _ _ _ _ h _ => h) (fun t q H1 Qy Qn ht hq s1 _ hy hn => ?_) (fun H1 out s1 hD al => ?_)⟩
    · obtain ⟨tp, rfl, htp⟩ := ht
      refine ⟨rfl, _, rfl, tp, _, _, _, rfl, rfl, SqT.of htp, atI_nat (j := 0) rfl, _, rfl, rfl, _, rfl, ?_⟩
      by_cases h : q.1 = n
      · exact iteB (decide_eq_true (congrArg V.str h)) ⟨_, rfl, tp, _, _, _, rfl, rfl, SqT.of htp, atI_nat (j := 1) rfl, hy (decide_eq_true h) _ _ (Same.refl _) rfl⟩
      · exact iteN (decide_eq_false fun e => h (V.str.inj e)) (hn (decide_eq_false h) _ (Same.refl _))
    · refine k D H1 nD s1 ?_
      rw [hD, al_strs al]
      rfl

theorem strOk_of {z : Str} (h : ∀ c ∈ z.cps.toList, c ≤ 1000) : PyData.strOk z = true := by
  unfold PyData.strOk
  rw [Array.all_eq_true']
  intro c hc
  have := h c (by simpa using hc)
  exact decide_eq_true (by omega)
theorem sh_one {z : Str} (h : PyData.strOk z = true) : SeqAt.shaped (.list [.str z]) = true := by
  simp [SeqAt.shaped, PyData.canLay0, PyData.canLayAll0, PyData.depth, PyData.depthAll, h]
/-- fields that a message takes -/
def FOk (gs : List (Str × Str)) : Prop := gs.length ≤ 40 ∧ ∀ q ∈ gs, NameOk q.1 ∧ ValOk q.2
theorem valok_str {z : Str} (h : ValOk z) : PyData.strOk z = true := strOk_of fun c hc => by
  have := h.2.1 c hc
  unfold PlainC at this
  omega
theorem valsOf_mem {n z : Str} {gs : List (Str × Str)} (h : z ∈ valsOf n gs) : (n, z) ∈ gs := by
  unfold valsOf at h
  obtain ⟨q, h1, h2⟩ := List.mem_map.mp h
  obtain ⟨h3, h4⟩ := List.mem_filter.mp h1
  have e : q.1 = n := of_decide_eq_true h4
  rw [← h2, ← e]
  exact h3
/-! ### joined: of at most one value -/
def spJoined (K : PySem.W.Frag) : Sp := fun vs H Q _ => ∃ r n gs, vs = [.ref r, .str n] ∧ ReqAt K H r gs ∧ FOk gs ∧ ((valsOf n gs = [] ∧ ∀ H', Same H H' → Q .non H') ∨ ∃ z, valsOf n gs = [z] ∧ ∀ H', Same H H' → Q (.str z) H')
theorem sc_Jn : FnScope ["self", "name", "found"] ["self", "name"] (defScope d_Message_joined.st) := ⟨rfl, rfl, rfl, by decide +kernel, rfl, by decide +kernel, by decide +kernel⟩
theorem r_Jn (T : Tx K mg) : FnR PP w K mg base CX0 2 (mA K "Request" "joined") (spJoined K) := by
  have F1 : FnR PP w K mg base CX0 1 (mA K "Request" "all_values") (spAV K) := r_AV T
  refine fnr_of (d := d_Message_joined) T 48 rfl sc_Jn (fun _ _ _ _ _ _ us hl => match us, hl with | [_, _], _ => rfl) (fun vs H Q E h => ?_) (fun cdv A outer s H vs Q E hr h => ?_)
  · obtain ⟨_, _, _, rfl, _⟩ := h
    rfl
  · obtain ⟨r, n, gs, rfl, hR, hlen, h⟩ := h
    have hu : (A.deeper (envOfC d_Message_joined.qual (defScope d_Message_joined.st) s.heap.objs.size (d_Message_joined.at_ K) cdv)).units + 64 < cLine := by
      have := hr.units
      unfold cLine at this ⊢
      omega
    refine ⟨_, pss_cons (ps_set (i := 2) sc_Jn.nd rfl (Or.inl rfl) (pe_methR (pv 0) (T.cls "Request") (T.meth "Request" "all_values") F1 hr pass0 (pa_cons (pv 1) pa_nil)))
      (pss_cons (ps_if (pt_cmpR (op_eqD hu) (pv 2) (pe_lst pa_nil) (nomark _)) (pss_one (ps_ret pe_non)) pss_nil)
      (pss_one (ps_ret (pe_join pe_str (pv 2))))), ?_⟩
    obtain ⟨dx, fl, ts, hr0, hfl, hts⟩ := hR
    refine ⟨_, rfl, r, dx, _, rfl, hr0, fr_no (by decide +kernel) (by decide +kernel) (by decide +kernel) (by decide +kernel), _, rfl, r, n, gs, rfl, ⟨dx, fl, ts, hr0, hfl, hts⟩, Nat.le_trans hlen.1 (by decide), fun p H1 np s1 hp => ?_⟩
    have e0 : start ["self", "name", "found"] [.ref r, .str n] = [some (.ref r), some (.str n), none] := rfl
    rcases h with ⟨hv, k⟩ | ⟨z, hv, k⟩
    · rw [hv] at hp
      refine ⟨_, rfl, by decide, fun a na => ⟨.list [], .list [], .lst (SqL.of (by rw [upd_ne (ne_of_none hp na)]; exact hp)) .nil, .lst (SqL.of upd_same) .nil, rfl, rfl, _, rfl, iteB rfl (k _ (s1.trans (same_upd na)))⟩⟩
    · have vz : ValOk z := (hlen.2 _ (valsOf_mem (n := n) (by rw [hv]; exact List.mem_singleton.mpr rfl))).2
      have hz : z.length ≤ 200 := vz.1
      have so := valok_str vz
      rw [hv] at hp
      refine ⟨_, rfl, by decide, fun a na => ?_⟩
      have hp2 : upd H1 a (.lst []) p = some (.lst [V.str z]) := by rw [upd_ne (ne_of_none hp na)]; exact hp
      refine ⟨.list [.str z], .list [], .lst (SqL.of hp2) (.cons (.str z) .nil), .lst (SqL.of upd_same) .nil, sh_one so, rfl, _, rfl, iteN rfl ?_⟩
      obtain ⟨l, rfl⟩ := S_tl' z
      refine ⟨⟨_, rfl⟩, _, rfl, S [44, 32], p, [S l], rfl, rfl, .inl (SqL.of hp2), ?_, ?_⟩
      · have e1 : (S [44, 32]).length = 2 := rfl
        simp only [List.map_cons, List.map_nil, List.sum_cons, List.sum_nil, List.length_cons, List.length_nil, e1]
        omega
      · rw [join1]
        exact k _ (s1.trans (same_upd na))
end
end K13

set_option Elab.async false
set_option linter.all false
set_option maxRecDepth 100000
set_option maxHeartbeats 4000000
/-! the module messages: the making of a request -/
namespace K13
open PySem PySem.Spec PyProof.Rows L2 SX
section
variable {w : World} {K : PySem.W.Frag} {mg : Str → Option Value} {base : Heap} {k : Nat} {N ps : List Str} {sp : Sp}

/-! ### is_body_text: of the empty text -/
def spBody : Sp := fun vs H Q _ => vs = [.str ""] ∧ ∀ H', Same H H' → Q (.bl true) H'
theorem sc_body : FnScope ["text"] ["text"] (defScope d_is_body_text.st) := ⟨rfl, rfl, rfl, by decide +kernel, rfl, by decide +kernel, by decide +kernel⟩
theorem r_is_body_text (T : Tx K mg) : FnR PP w K mg base CX0 3 (gA K "is_body_text") spBody := by
  have F1 : FnR PP w K mg base CX0 2 (gA K "is_plain") spPlain := r_is_plain T
  obtain ⟨u, hu⟩ := T.mostB
  refine fnr_of (d := d_is_body_text) T 15 rfl sc_body (fun _ _ _ _ _ _ us hl => match us, hl with | [_], _ => rfl) (fun vs H Q E h => ?_) (fun cdv A outer s H vs Q E hr h => ?_)
  · obtain ⟨rfl, _⟩ := h
    rfl
  · obtain ⟨rfl, k⟩ := h
    refine ⟨_, pss_one (ps_ret (pe_and (pe_cmpR op_le (pe_callB call_len_str (by rfl) (T.free "len") PySem.boot_len (pa_cons (pv 0) pa_nil)) (ClX.pe_cval (pe_gr (by rfl) (T.glo "Message"))) (nomark _))
      (pe_one (pe_callR F1 hr rfl (T.glo "is_plain") (T.keep "is_plain") pass0 (pa_cons (pe_bm PySem.F.plainAttrs_str PySem.F.slot_str_replace PySem.F.type_str_replace mt_replace0 (pv 0) (pa_cons pe_str (pa_cons pe_str pa_nil))) pa_nil))))), ?_⟩
    refine ⟨_, rfl, _, rfl, by decide +kernel, _, _, _, u, rfl, T.cread "Message", hu, _, _, rfl, rfl, _, rfl, iteB (by decide +kernel) ?_⟩
    exact ⟨_, rfl, rfl, "", _, _, rfl, rfl, by decide +kernel, _, rfl, by decide +kernel, fun c hc => (nomatch hc), k⟩

/-! ### Message.__init__ -/
def spGInit (K : PySem.W.Frag) : Sp := fun vs H Q _ => ∃ p dx fl ts gs, vs = [.ref p, .ref fl, .str ""] ∧ H p = some (.ins (CR K) dx fR0) ∧ H fl = some (.lst ts) ∧ Prs H ts gs ∧ FOk gs ∧
  ∀ fl' ts' H', Kp p H H' → H fl' = none → H' fl' = some (.lst ts') → Prs (New H H') ts' gs → H' p = some (.ins (CR K) dx (fR fl')) → Q .non H'
theorem putF_req {fl : Addr} : putF "body" (.str "") (putF "fields" (.ref fl) fR0) = fR fl := by
  have h : ∀ (f g : Str) (v u : V) (r : List (Str × V)), g ≠ f → putF f v ((g, u) :: r) = (g, u) :: putF f v r := fun f g v u r n => by
    show (if g = f then (g, v) :: r else (g, u) :: putF f v r) = _
    rw [if_neg n]
  have h0 : ∀ (f : Str) (v : V), putF f v [] = [(f, v)] := fun _ _ => rfl
  unfold fR fR0
  repeat (first | rw [h0] | rw [h _ _ _ _ _ (by decide +kernel)])
theorem sc_GInit : FnScope ["self", "fields", "body", "name", "value"] ["self", "fields", "body"] (defScope d_Message_init.st) := ⟨rfl, rfl, rfl, by decide +kernel, rfl, by decide +kernel, by decide +kernel⟩
theorem r_GInit (T : Tx K mg) : FnR PP w K mg base CX0 4 (mA K "Message" "__init__") (spGInit K) := by
  have F1 : FnR PP w K mg base CX0 2 (gA K "is_field_name") spName := r_is_field_name T
  have F2 : FnR PP w K mg base CX0 3 (gA K "is_value") spValue := r_is_value T
  have F3 : FnR PP w K mg base CX0 3 (gA K "is_body_text") spBody := r_is_body_text T
  obtain ⟨u, hu⟩ := T.mostF
  refine fnr_of (d := d_Message_init) T 46 rfl sc_GInit (fun _ _ _ _ _ _ us hl => match us, hl with | [_, _, _], _ => rfl) (fun vs H Q E h => ?_) (fun cdv A outer s H vs Q E hr h => ?_)
  · obtain ⟨_, _, _, _, _, rfl, _⟩ := h
    rfl
  · obtain ⟨p, dx, fl, ts, gs, rfl, hp, hfl, hts, ok, k⟩ := h
    refine ⟨_, pss_cons (ps_if (pt_cmpR op_gt (pe_callB call_len_seq (by rfl) (T.free "len") PySem.boot_len (pa_cons (pv 1) pa_nil)) (ClX.pe_cval (pe_gr (by rfl) (T.glo "Message"))) (nomark _)) pss_never pss_nil)
      (pss_cons (ps_for PassesOwn.never rfl (pi_list (pv 1)) (pg_tup rfl (pgs_cons (pg_name (i := 3) sc_GInit.nd rfl (Or.inl rfl)) (pgs_cons (pg_name (i := 4) sc_GInit.nd rfl (Or.inl rfl)) pgs_nil)))
        (pss_one (ps_if (PW.pt (pw_or (pt_not (pt_val (pe_callR F1 (hr.mono (by decide)) rfl (T.glo "is_field_name") (T.keep "is_field_name") pass0 (pa_cons (pv 3) pa_nil)))) (pw_or1 (pt_not (pt_val (pe_callR F2 (hr.mono (by decide)) rfl (T.glo "is_value") (T.keep "is_value") pass0 (pa_cons (pv 4) pa_nil))))))) pss_never pss_nil)))
      (pss_cons (ps_if (PW.pt (pw_or (pt_not (pt_val (pe_callR F3 (hr.mono (by decide)) rfl (T.glo "is_body_text") (T.keep "is_body_text") pass0 (pa_cons (pv 2) pa_nil)))) (pw_or1 (PW.pt (pw_and (pt_cmpR op_ne (pv 2) pe_str (nomark _)) (pw_and1 pt_never)))))) pss_never pss_nil)
      (pss_cons (ps_fld (pv 0) (pe_lc (own := [("name", 3), ("value", 4)]) (tt := tYes) rfl sc_GInit.nd (pi_list (pv 1)) (blkOk_by (own := [("name", 3), ("value", 4)]) (N := ["self", "fields", "body", "name", "value"]) (sc := defScope d_Message_init.st) (by decide +kernel))
          (g := gTup K 2 (gCons (gName 3) (gCons (gName 4) gNil))) (fun _ _ _ _ _ => pg_tup rfl (pgs_cons (pg_name (i := 3) sc_GInit.nd rfl (Or.inl rfl)) (pgs_cons (pg_name (i := 4) sc_GInit.nd rfl (Or.inl rfl)) pgs_nil))) (fun _ _ _ _ _ => pts_nil) (fun _ _ _ _ _ => pe_tup (pa_cons (pv 3) (pa_cons (pv 4) pa_nil)))) rfl)
      (pss_one (ps_fld (pv 0) (pv 2) rfl))))), ?_⟩
    have hll : ts.length ≤ 40 := by rw [hts.length]; exact ok.1
    refine ⟨_, rfl, fl, _, rfl, .inl (SqL.of hfl), _, _, _, u, rfl, T.cread "Message", hu, _, _, rfl, rfl, _, rfl, iteN (decide_eq_false (by omega)) ?_⟩
    refine ⟨_, rfl, fl, rfl, ⟨_, SqL.of hfl⟩, for_list (xs := ts) (fun i σ H2 => ∃ a b : Option V, σ = [some (.ref p), some (.ref fl), some (.str ""), a, b] ∧ Same H H2) ⟨none, none, rfl, Same.refl _⟩ (fun i σ H2 _ ⟨_, _, _, s2⟩ => SqL.of (s2 _ _ hfl)) ?_ ?_⟩
    · rintro i t σ H2 hi ⟨a, b, rfl, s2⟩
      obtain ⟨q, hq, tp, rfl, htp⟩ := hts.get hi
      have hq2 := ok.2 q (List.mem_of_getElem? hq)
      refine ⟨tp, _, rfl, SqT.of (s2 _ _ htp), rfl, _, _, rfl, _, _, rfl, rfl, ?_⟩
      refine ⟨_, rfl, q.1, rfl, hq2.1, fun H3 s3 => ⟨_, rfl, iteF ⟨_, rfl, q.2, rfl, hq2.2, fun H4 s4 => ⟨_, rfl, iteF ?_⟩⟩⟩⟩
      exact ⟨_, _, rfl, s2.trans (s3.trans s4)⟩
    · rintro σ H2 ⟨a, b, rfl, s2⟩
      refine ⟨_, rfl, rfl, fun H3 s3 => ⟨_, rfl, iteF ⟨_, rfl, rfl, _, rfl, iteN rfl (iteF ?_)⟩⟩⟩
      have sA := s2.trans s3
      refine ⟨_, rfl, fl, rfl, ⟨_, SqL.of (sA _ _ hfl)⟩, fun D nD => lc_al (K := K) (a := fl) PrAt (fun H' v q => PrAt (New H H') v q) (fun _ => true) nD (sA _ _ hfl) (prs_mono sA hts) (Nat.le_trans ok.1 (by decide)) (fun _ _ v q s h => h.mono s) (fun _ _ v q s h => h.mono (new_mono s)) (fun H' v q xs ys h hD => ?_)
        (fun t q H4 Qy Qn ht hq s4 _ hy hn => ?_) (fun H4 out s4 hD al => ?_)⟩
      · obtain ⟨t, e, f⟩ := h
        exact ⟨t, e, new_at (of_new f).1 (by rw [upd_ne (ne_of (of_new f).2 hD (by intro z; cases z))]; exact (of_new f).2)⟩
      · obtain ⟨tp, rfl, htp⟩ := ht
        refine ⟨tp, _, rfl, SqT.of htp, rfl, _, _, rfl, _, _, rfl, rfl, rfl, ?_⟩
        dsimp only [tYes]
        rw [if_pos rfl]
        refine ⟨_, rfl, _, rfl, (by show 2 ≤ sizeLine; rw [sizeLine_eq]; decide), fun c nc => hy rfl _ _ (same_upd nc) ⟨c, rfl, new_at ((sA.trans s4).free nc) upd_same⟩⟩
      · have s5 : Same H H4 := sA.trans s4
        refine ⟨_, rfl, p, _, dx, _, rfl, s5 _ _ hp, T.cls "Request", T.noat "Request" "fields", by decide, ?_⟩
        refine ⟨_, rfl, _, rfl, p, _, dx, _, rfl, upd_same, T.cls "Request", T.noat "Request" "body", Nat.lt_of_le_of_lt (lenP 2 (Nat.le_refl 2)) (by decide), ?_⟩
        have nDH : H D = none := sA.free nD
        have nDp : D ≠ p := (ne_of_none hp nDH).symm
        refine k D out _ (fun c o n e => by rw [upd_ne n, upd_ne n]; exact s5 c o e) nDH (by rw [upd_ne nDp, upd_ne nDp]; exact hD) ?_ ?_
        · rw [List.filter_eq_self.mpr (fun _ _ => rfl)] at al
          refine al.imp fun v q ⟨t, e, f⟩ => ⟨t, e, new_at (of_new f).1 ?_⟩
          have ntp : t ≠ p := (ne_of_none hp (of_new f).1).symm
          rw [upd_ne ntp, upd_ne ntp]
          exact (of_new f).2
        · rw [upd_same, putF_req]
end
end K13

set_option Elab.async false
set_option linter.all false
set_option maxRecDepth 100000
set_option maxHeartbeats 4000000
/-! Request.__init__ -/
namespace K13
open PySem PySem.Spec PyProof.Rows L2 SX NdefX
section
variable {w : World} {K : PySem.W.Frag} {mg : Str → Option Value} {base : Heap} {k : Nat} {N ps : List Str} {sp : Sp}

abbrev psR : List Str := ["self", "method", "path", "fields", "body"]
abbrev nsR : List Str := ["self", "method", "path", "fields", "body", "__class__"]
abbrev bodyR : List Stmt := defBody s_Request_init
def spRInit (K : PySem.W.Frag) : Sp := fun vs H Q _ => ∃ p dx fl ts gs, vs = [.ref p, .str "get", .str "/a", .ref fl, .str ""] ∧ H p = some (.ins (CR K) dx []) ∧ H fl = some (.lst ts) ∧ Prs H ts gs ∧ FOk gs ∧
  ∀ fl' ts' H', Kp p H H' → H fl' = none → H' fl' = some (.lst ts') → Prs (New H H') ts' gs → H' p = some (.ins (CR K) dx (fR fl')) → Q .non H'
theorem nsc_R : NScope nsR psR ["__class__"] (defScope s_Request_init) := nscope_by (by decide +kernel)
theorem putF_req0 : putF "path" (.str "/a") (putF "method" (.str "get") []) = fR0 := by
  show (if ("method" : Str) = "path" then [(("method" : Str), V.str "/a")] else (("method" : Str), V.str "get") :: putF "path" (.str "/a") []) = _
  rw [if_neg (by decide +kernel)]
  rfl
theorem r_RInitX (T : Tx K mg) : ∃ dV kV doc pm an cdv ct, DflV K dV [.ref (e0A K), .str ""] ∧ FnOk PP w K mg base CX0 5 (rI K)
    (PySem.W.fnX "__init__" "Request.__init__" (defArgs s_Request_init) bodyR (defScope s_Request_init) [("__class__", cellA K (rI K))] dV kV doc pm an cdv ct) psR (spRInit K) := by
  obtain ⟨oc, od, dV, kV, doc, pm, an, cdv, ct, osl, cl, lk, hcl, hcd, hD, hK, kp⟩ := T.says.req
  obtain ⟨c, rfl⟩ : ∃ c : Addr, cl = [(("__class__" : Str), c)] := by
    match cl, hcl with
    | [(n, c)], e =>
      have e' : n = "__class__" := (List.cons.inj e).1
      exact ⟨c, by rw [e']⟩
  obtain ⟨cc, rfl⟩ : ∃ cc, cdv = .ref cc := by
    unfold PySem.W.codeIn at hcd
    split at hcd
    · exact ⟨_, rfl⟩
    · cases hcd
  have e1 : cellA K (rI K) = c := by
    unfold cellA
    rw [lk]
  have e2 : codeA K (rI K) = cc := by
    unfold codeA
    rw [lk]
  have S := T.sup
  rw [e1, e2] at S
  rw [e1]
  have F1 : FnR PP w K mg base CX0 2 (gA K "is_path") spPath := r_is_path T
  have F2 : FnR PP w K mg base CX0 4 (mA K "Message" "__init__") (spGInit K) := r_GInit T
  obtain ⟨u, hu⟩ := T.methodsC
  refine ⟨dV, kV, doc, pm, an, .ref cc, ct, hD, fn_sup (w := w) (base := base) (mg := mg) (pre := bodyR.take 4) (N := nsR) (sp := spRInit K) lk hcd nsc_R S (by rfl) (by rfl) (by rfl) (by decide +kernel) (by decide +kernel) (by decide +kernel) (by decide +kernel) F2 (fun vs H Q E h => ?_) (fun env he => ⟨rfl, rfl, rfl, _, rfl⟩) (fun A outer s H vs Q E hr h => ?_)⟩
  · obtain ⟨_, _, _, _, _, rfl, _⟩ := h
    rfl
  · obtain ⟨p, dx, fl, ts, gs, rfl, hp, hfl, hts, ok, k⟩ := h
    refine ⟨_, _, pss_cons (ps_if (pt_cmpR op_notIn_seq (pv 1) (ClX.pe_cval (pe_gr (by rfl) (T.glo "Request"))) (by rfl)) pss_never pss_nil)
      (pss_cons (ps_if (pt_not (pt_val (pe_callR F1 (hr.mono (by decide)) rfl (T.glo "is_path") (T.keep "is_path") pass0 (pa_cons (pv 2) pa_nil)))) pss_never pss_nil)
      (pss_cons (ps_fld (pv 0) (pv 1) rfl) (pss_one (ps_fld (pv 0) (pv 2) rfl)))), pa_cons (pv 3) (pa_cons (pv 4) pa_nil), ?_⟩
    refine ⟨_, rfl, _, _, _, u, rfl, T.cread "Request", hu, mtA K, _, rfl, .inr (T.methodsT H), rfl, rfl, _, rfl, iteN (by decide +kernel) ?_⟩
    refine ⟨_, rfl, rfl, fun H1 s1 => ⟨_, rfl, iteF ?_⟩⟩
    refine ⟨_, rfl, _, rfl, p, _, dx, _, rfl, s1 _ _ hp, T.cls "Request", T.noat "Request" "method", by decide, ?_⟩
    refine ⟨_, rfl, _, rfl, p, _, dx, _, rfl, upd_same, T.cls "Request", T.noat "Request" "path", Nat.lt_of_le_of_lt (lenP 0 (Nat.le_refl 0)) (by decide), ?_⟩
    have npf : fl ≠ p := ne_of hfl hp (by intro z; cases z)
    refine ⟨p, dx, fR0, rfl, by rw [upd_same, putF_req0], _, rfl, _, rfl, p, dx, fl, ts, gs, rfl, by rw [upd_same, putF_req0], by rw [upd_ne npf, upd_ne npf]; exact s1 _ _ hfl, ?_, ok, fun fl' ts' H' k' n1 h1 h2 h3 => ?_⟩
    · refine hts.imp fun v q ⟨t, e, f⟩ => ⟨t, e, ?_⟩
      have n := ne_of f hp (by intro z; cases z)
      rw [upd_ne n, upd_ne n]
      exact s1 _ _ f
    · have kp3 : Kp p H (upd (upd H1 p (.ins (CR K) dx (putF "method" (.str "get") []))) p (.ins (CR K) dx (putF "path" (.str "/a") (putF "method" (.str "get") [])))) := fun c o n e => by
        rw [upd_ne n, upd_ne n]
        exact s1 c o e
      have fr : ∀ t, (upd (upd H1 p (.ins (CR K) dx (putF "method" (.str "get") []))) p (.ins (CR K) dx (putF "path" (.str "/a") (putF "method" (.str "get") [])))) t = none → H t = none := fun t e => by
        by_cases n : t = p
        · rw [n, upd_same] at e
          cases e
        · exact kp3.free n e
      exact k fl' ts' H' (kp3.trans k') (fr _ n1) h1 (h2.imp fun v q ⟨t, e, f⟩ => ⟨t, e, new_at (fr _ (of_new f).1) (of_new f).2⟩) h3
theorem bind_req (TT : Addr) (kV doc pm : Value) (an : Option Addr) (cdv ct : Value) (cl : List (Str × Addr)) : (∀ a b c d e f g : Value, ∃ k, bindArgs (PySem.W.fnX "__init__" "Request.__init__" (defArgs s_Request_init) bodyR (defScope s_Request_init) cl (.ref TT) kV doc pm an cdv ct) ⟨[a, b, c, d, e], []⟩ = seqItems? (.ref TT) >>= k ∧ k (some [f, g].toArray) = pure (psR.zip [a, b, c, d, e])) ∧
    (∀ a b c d f g : Value, ∃ k, bindArgs (PySem.W.fnX "__init__" "Request.__init__" (defArgs s_Request_init) bodyR (defScope s_Request_init) cl (.ref TT) kV doc pm an cdv ct) ⟨[a, b, c, d], []⟩ = seqItems? (.ref TT) >>= k ∧ k (some [f, g].toArray) = pure (psR.zip [a, b, c, d, g])) :=
  ⟨fun _ _ _ _ _ _ _ => ⟨_, rfl, rfl⟩, fun _ _ _ _ _ _ => ⟨_, rfl, rfl⟩⟩
/-- Request(method, path, fields, body) -/
theorem r_RInit (T : Tx K mg) : FnR PP w K mg base CX0 5 (rI K) (spRInit K) := by
  obtain ⟨dV, kV, doc, pm, an, cdv, ct, hD, F⟩ := r_RInitX (w := w) (base := base) T
  have b : Binds K (PySem.W.fnX "__init__" "Request.__init__" (defArgs s_Request_init) bodyR (defScope s_Request_init) [("__class__", cellA K (rI K))] dV kV doc pm an cdv ct) psR [] := by
    rcases hD with ⟨e, _⟩ | ⟨_, TT, o, its, m, rfl, lT, oT, rT⟩
    · cases e
    · intro s us X hlen
      have l1 : its.length = 2 := rT.length.symm
      refine BindsTo.of_looks fun M => ?_
      rw [List.append_nil] at hlen ⊢
      match us, its, hlen, l1, oT with
      | [a, b, c, d, e], [f, g], _, _, oT =>
        obtain ⟨k, e1, e2⟩ := (bind_req TT kV doc pm an cdv ct [("__class__", cellA K (rI K))]).1 a b c d e f g
        rw [e1]
        exact looks_items X lT oT (PySem.W.Looks.of_pure e2)
  exact (F.raw b .nil).imp fun vs H Q E h => by rw [List.append_nil]; exact h
/-- Request(method, path, fields) -/
theorem r_RInit1 (T : Tx K mg) : FnR PP w K mg base CX0 5 (rI K) (fun vs H Q E => spRInit K (vs ++ [.str ""]) H Q E) := by
  obtain ⟨dV, kV, doc, pm, an, cdv, ct, hD, F⟩ := r_RInitX (w := w) (base := base) T
  rcases hD with ⟨e, _⟩ | ⟨_, TT, o, its, m, rfl, lT, oT, rT⟩
  · cases e
  · have b : Binds K (PySem.W.fnX "__init__" "Request.__init__" (defArgs s_Request_init) bodyR (defScope s_Request_init) [("__class__", cellA K (rI K))] (.ref TT) kV doc pm an cdv ct) psR (its.drop 1) := by
      intro s us X hlen
      have l1 : its.length = 2 := rT.length.symm
      have l2 : us.length = 4 := by
        rw [List.length_append, List.length_drop, l1] at hlen
        have : psR.length = 5 := rfl
        omega
      refine BindsTo.of_looks fun M => ?_
      match us, its, l2, l1, oT with
      | [a, b, c, d], [f, g], _, _, oT =>
        obtain ⟨k, e1, e2⟩ := (bind_req TT kV doc pm an cdv ct [("__class__", cellA K (rI K))]).2 a b c d f g
        show PySem.W.Looks M s.heap _ (psR.zip [a, b, c, d, g])
        rw [e1]
        exact looks_items X lT oT (PySem.W.Looks.of_pure e2)
    exact (F.raw b (rT.drop 1))
end
end K13

set_option Elab.async false
set_option linter.all false
set_option maxRecDepth 100000
set_option maxHeartbeats 4000000
/-! requests remade; checking -/
namespace K13
open PySem PySem.Spec PyProof.Rows L2 SX
section
variable {w : World} {K : PySem.W.Frag} {mg : Str → Option Value} {base : Heap} {k : Nat} {N ps : List Str} {sp : Sp}

theorem made_free {H : Hp} {x dx t : Addr} {o o' : HO} (h : upd (upd H dx o) x o' t = none) : H t = none := by
  by_cases n : t = x
  · rw [n, upd_same] at h
    cases h
  · rw [upd_ne n] at h
    by_cases m : t = dx
    · rw [m, upd_same] at h
      cases h
    · rw [upd_ne m] at h
      exact h
theorem FOk.filter {gs : List (Str × Str)} (h : FOk gs) (p : Str × Str → Bool) : FOk (gs.filter p) := ⟨Nat.le_trans (List.length_filter_le ..) h.1, fun q m => h.2 q (List.mem_filter.mp m).1⟩

/-! ### remade -/
def spRemade (K : PySem.W.Frag) : Sp := fun vs H Q _ => ∃ r gs0 fl ts gs, vs = [.ref r, .ref fl, .str ""] ∧ ReqAt K H r gs0 ∧ H fl = some (.lst ts) ∧ Prs H ts gs ∧ FOk gs ∧ ∀ r' H', Same H H' → ReqAt K (New H H') r' gs → Q (.ref r') H'
theorem sc_Remade : FnScope ["self", "fields", "body"] ["self", "fields", "body"] (defScope d_Request_remade.st) := ⟨rfl, rfl, rfl, by decide +kernel, rfl, by decide +kernel, by decide +kernel⟩
theorem r_Remade (T : Tx K mg) : FnR PP w K mg base CX0 7 (mA K "Request" "remade") (spRemade K) := by
  have F1 : FnR PP w K mg base CX0 5 (rI K) (spRInit K) := r_RInit T
  refine fnr_of (d := d_Request_remade) T 51 rfl sc_Remade (fun _ _ _ _ _ _ us hl => match us, hl with | [_, _, _], _ => rfl) (fun vs H Q E h => ?_) (fun cdv A outer s H vs Q E hr h => ?_)
  · obtain ⟨_, _, _, _, _, rfl, _⟩ := h
    rfl
  · obtain ⟨r, gs0, fl, ts, gs, rfl, ⟨dx, fl0, ts0, h1, h2, h3⟩, hfl, hts, ok, k⟩ := h
    refine ⟨_, pss_one (ps_ret (StX.pe_makeR (T.mkr "Request") F1 hr rfl (T.glo "Request") pass0 (pa_cons (pe_fld (pv 0) rfl) (pa_cons (pe_fld (pv 0) rfl) (pa_cons (pv 1) (pa_cons (pv 2) pa_nil)))))), ?_⟩
    refine ⟨_, rfl, r, _, dx, _, _, rfl, h1, T.cls "Request", T.noat "Request" "method", fr_method, _, rfl, r, _, dx, _, _, rfl, h1, T.cls "Request", T.noat "Request" "path", fr_path, _, rfl, _, rfl, ?_⟩
    intro x dx' nx nd ne
    have sH : Same H (upd (upd H dx' (.own x)) x (.ins (CR K) dx' [])) := fun c o e => by rw [upd_ne (ne_of_none e nx), upd_ne (ne_of_none e nd)]; exact e
    refine ⟨x, dx', fl, ts, gs, rfl, upd_same, sH _ _ hfl, prs_mono sH hts, ok, fun fl' ts' H' k' n1 e1 e2 e3 => ⟨rfl, ?_⟩⟩
    exact k x H' (made_same nx nd k') ⟨dx', fl', ts', new_at nx e3, new_at (made_free n1) e1, e2.imp fun v q ⟨t, e, f⟩ => ⟨t, e, new_at (made_free (of_new f).1) (of_new f).2⟩⟩

/-! ### with_field -/
def spWith (K : PySem.W.Frag) : Sp := fun vs H Q _ => ∃ r n z gs, vs = [.ref r, .str n, .str z] ∧ ReqAt K H r gs ∧ FOk gs ∧ FOk (gs.filter (fun q => decide (q.1 ≠ n)) ++ [(n, z)]) ∧ ∀ r' H', Same H H' → ReqAt K (New H H') r' (gs.filter (fun q => decide (q.1 ≠ n)) ++ [(n, z)]) → Q (.ref r') H'
theorem sc_With : FnScope ["self", "name", "value", "others", "field"] ["self", "name", "value"] (defScope d_Message_with_field.st) := ⟨rfl, rfl, rfl, by decide +kernel, rfl, by decide +kernel, by decide +kernel⟩
theorem r_With (T : Tx K mg) : FnR PP w K mg base CX0 8 (mA K "Request" "with_field") (spWith K) := by
  have F1 : FnR PP w K mg base CX0 7 (mA K "Request" "remade") (spRemade K) := r_Remade T
  refine fnr_of (d := d_Message_with_field) T 49 rfl sc_With (fun _ _ _ _ _ _ us hl => match us, hl with | [_, _, _], _ => rfl) (fun vs H Q E h => ?_) (fun cdv A outer s H vs Q E hr h => ?_)
  · obtain ⟨_, _, _, _, rfl, _⟩ := h
    rfl
  · obtain ⟨r, n, z, gs, rfl, hR, ok, ok', k⟩ := h
    have hR' := hR
    obtain ⟨dx, fl, ts, hr0, hfl, hts⟩ := hR'
    refine ⟨_, pss_cons (ps_setLc (i := 3) (own := [("field", 4)]) (g := gName 4) (tt := tTest (tOp rNe (tOp (rIxT K) (tVar 4) (tC (.int 0))) (tVar 1))) rfl sc_With.nd rfl rfl (sw_true rfl rfl rfl (by decide +kernel)) (pi_list (pe_fld (pv 0) rfl)) (blkOk_by (own := [("field", 4)]) (N := ["self", "name", "value", "others", "field"]) (sc := defScope d_Message_with_field.st) (by decide +kernel))
        (fun _ _ _ _ _ => pg_name (i := 4) sc_With.nd rfl (Or.inl rfl)) (fun _ _ _ _ _ => pts_one (pt_cmpR op_ne (pe_ix ix_tup (pv 4) pe_int (fun _ _ => rfl)) (pv 1) (nomark _))) (fun _ _ _ _ _ => pv 4))
      (pss_one (ps_ret (pe_methR (pv 0) (T.cls "Request") (T.meth "Request" "remade") F1 hr pass0 (pa_cons (pe_op op_cat (pv 3) (pe_lst (pa_cons (pe_tup (pa_cons (pv 1) (pa_cons (pv 2) pa_nil))) pa_nil))) (pa_cons (pe_fld (pv 0) rfl) pa_nil))))), ?_⟩
    refine ⟨_, rfl, r, _, dx, _, _, rfl, hr0, T.cls "Request", T.noat "Request" "fields", fr_fields, ?_⟩
    refine ⟨fl, rfl, ⟨_, SqL.of hfl⟩, fun D nD => lc_al (K := K) (a := fl) PrAt PrAt (fun q => decide (q.1 ≠ n)) nD hfl hts (Nat.le_trans ok.1 (by decide)) (fun _ _ _ _ s h => h.mono s) (fun _ _ _ _ s h => h.mono s) (fun _ _ _ _ _ h hD => prAt_upd h hD) (fun t q H1 Qy Qn ht hq s1 _ hy hn => ?_) (fun H1 out s1 hD al => ?_)⟩
    · obtain ⟨tp, rfl, htp⟩ := ht
      refine ⟨rfl, _, rfl, tp, _, _, _, rfl, rfl, SqT.of htp, atI_nat (j := 0) rfl, _, rfl, rfl, _, rfl, ?_⟩
      by_cases h : q.1 = n
      · exact iteN (by rw [decide_eq_true (congrArg V.str h)]; rfl) (hn (decide_eq_false (fun z => z h)) _ (Same.refl _))
      · exact iteB (by rw [decide_eq_false (fun e => h (V.str.inj e))]; rfl) ⟨_, rfl, hy (decide_eq_true h) _ _ (Same.refl _) ⟨tp, rfl, htp⟩⟩
    · refine ⟨_, rfl, r, dx, _, rfl, s1 _ _ hr0, fr_no (by decide +kernel) (by decide +kernel) (by decide +kernel) (by decide +kernel), ?_⟩
      refine ⟨_, rfl, _, rfl, _, rfl, (by show 2 ≤ sizeLine; rw [sizeLine_eq]; decide), fun c nc => ⟨(by show 1 ≤ sizeLine; rw [sizeLine_eq]; decide), fun b nb => ?_⟩⟩
      have nDc : D ≠ c := ne_of_none hD nc
      have hc : upd (upd H1 c (.tup [.str n, .str z])) b (.lst [.ref c]) c = some (.tup [.str n, .str z]) := by
        rw [upd_ne (ne_of_none (upd_same (H := H1) (a := c)) nb), upd_same]
      have hD2 : upd (upd H1 c (.tup [.str n, .str z])) b (.lst [.ref c]) D = some (.lst out) := by
        rw [upd_ne (ne_of_none (show upd H1 c (.tup [.str n, .str z]) D = some (.lst out) by rw [upd_ne nDc]; exact hD) nb), upd_ne nDc]
        exact hD
      have s2 : Same H1 (upd (upd H1 c (.tup [.str n, .str z])) b (.lst [.ref c])) := (same_upd nc).trans (same_upd nb)
      have lo : out.length ≤ 40 := by
        rw [al.length]
        exact Nat.le_trans (List.length_filter_le ..) ok.1
      refine ⟨D, b, out, _, rfl, rfl, hD2, upd_same, Nat.le_of_lt (small1000 (by show out.length + 1 ≤ 1000; omega)), fun e ne => ?_⟩
      have s3 := s2.trans (same_upd (o := .lst (out ++ [.ref c])) ne)
      refine ⟨_, rfl, r, _, dx, _, _, rfl, s3 _ _ (s1 _ _ hr0), T.cls "Request", T.noat "Request" "body", fr_body, ?_⟩
      refine ⟨r, gs, e, _, _, rfl, hR.mono (s1.trans s3), upd_same, ?_, ok', fun r' H' s' hR' => k r' H' ((s1.trans s3).trans s') (hR'.mono (new_back (s1.trans s3)))⟩
      exact (al.imp fun v q h => PrAt.mono s3 h).app (.one ⟨c, rfl, (same_upd ne) _ _ hc⟩)
end
end K13

set_option Elab.async false
set_option linter.all false
set_option maxRecDepth 100000
set_option maxHeartbeats 4000000
/-! without; checking -/
namespace K13
open PySem PySem.Spec PyProof.Rows L2 SX
section
variable {w : World} {K : PySem.W.Frag} {mg : Str → Option Value} {base : Heap} {k : Nat} {N ps : List Str} {sp : Sp}

/-! ### without -/
def keepW (ns : List Str) (q : Str × Str) : Bool := !inV (.str q.1) (ns.map V.str)
theorem inV_strs (z : Str) (ns : List Str) : inV (.str z) (ns.map V.str) = true ↔ z ∈ ns := by
  unfold inV
  rw [List.any_eq_true]
  constructor
  · rintro ⟨v, h1, h2⟩
    obtain ⟨n, h3, rfl⟩ := List.mem_map.mp h1
    have e : n = z := beq_iff_eq.mp h2
    rw [← e]
    exact h3
  · intro h
    exact ⟨.str z, List.mem_map.mpr ⟨z, h, rfl⟩, beq_self_eq_true z⟩
theorem keepW_true {ns : List Str} {q : Str × Str} : keepW ns q = true ↔ q.1 ∉ ns := by
  unfold keepW
  rw [Bool.not_eq_true', ← inV_strs q.1 ns]
  simp
def spWoutT (K : PySem.W.Frag) : Sp := fun vs H Q _ => ∃ r p ns gs, vs = [.ref r, .ref p] ∧ H p = some (.tup (ns.map V.str)) ∧ ReqAt K H r gs ∧ FOk gs ∧ ∀ r' H', Same H H' → ReqAt K (New H H') r' (gs.filter (keepW ns)) → Q (.ref r') H'
def spWout (K : PySem.W.Frag) : Sp := fun vs H Q _ => ∃ r ns gs, vs = .ref r :: ns.map V.str ∧ ns.length ≤ 100 ∧ ReqAt K H r gs ∧ FOk gs ∧ ∀ r' H', Same H H' → ReqAt K (New H H') r' (gs.filter (keepW ns)) → Q (.ref r') H'
theorem sc_Wout : FnScope ["self", "names", "others", "field"] (([("self" : Str)] : List Str) ++ [("names" : Str)]) (defScope d_Message_without.st) := ⟨rfl, rfl, rfl, by decide +kernel, rfl, by decide +kernel, by decide +kernel⟩
theorem b_Wout (T : Tx K mg) (cdv : Value) (A : Around) (outer : List Env) (s : Shared) (H : Hp) (vs : List V) (Q : VK) (E : XK) (hr : Room 7 (A.deeper (envOfC d_Message_without.qual (defScope d_Message_without.st) s.heap.objs.size (d_Message_without.at_ K) cdv))) (h : spWoutT K vs H Q E) :
    ∃ t, PSs (cxOf CX0 PP w K mg base ["self", "names", "others", "field"] d_Message_without.qual (defScope d_Message_without.st) (d_Message_without.at_ K) cdv A outer s H E).nox (defBody d_Message_without.st) t ∧ t { nx := fun _ H' => Q .non H', rt := Q } (start ["self", "names", "others", "field"] vs) H := by
  have F1 : FnR PP w K mg base CX0 7 (mA K "Request" "remade") (spRemade K) := r_Remade T
  obtain ⟨r, p, ns, gs, rfl, hp, hR, ok, k⟩ := h
  have hR' := hR
  obtain ⟨dx, fl, ts, hr0, hfl, hts⟩ := hR'
  refine ⟨_, pss_cons (ps_setLc (i := 2) (own := [("field", 3)]) (g := gName 3) (tt := tTest (tOp (rIn K true) (tOp (rIxT K) (tVar 3) (tC (.int 0))) (tVar 1))) rfl sc_Wout.nd rfl rfl (sw_true rfl rfl rfl (by decide +kernel)) (pi_list (pe_fld (pv 0) rfl)) (blkOk_by (own := [("field", 3)]) (N := ["self", "names", "others", "field"]) (sc := defScope d_Message_without.st) (by decide +kernel))
      (fun _ _ _ _ _ => pg_name (i := 3) sc_Wout.nd rfl (Or.inl rfl)) (fun _ _ _ _ _ => pts_one (pt_cmpR op_notIn_seq (pe_ix ix_tup (pv 3) pe_int (fun _ _ => rfl)) (pv 1) (by rfl))) (fun _ _ _ _ _ => pv 3))
    (pss_one (ps_ret (pe_methR (pv 0) (T.cls "Request") (T.meth "Request" "remade") F1 hr pass0 (pa_cons (pv 2) (pa_cons (pe_fld (pv 0) rfl) pa_nil))))), ?_⟩
  refine ⟨_, rfl, r, _, dx, _, _, rfl, hr0, T.cls "Request", T.noat "Request" "fields", fr_fields, ?_⟩
  refine ⟨fl, rfl, ⟨_, SqL.of hfl⟩, fun D nD => lc_al (K := K) (a := fl) PrAt PrAt (keepW ns) nD hfl hts (Nat.le_trans ok.1 (by decide)) (fun _ _ _ _ s h => h.mono s) (fun _ _ _ _ s h => h.mono s) (fun _ _ _ _ _ h hD => prAt_upd h hD) (fun t q H1 Qy Qn ht hq s1 _ hy hn => ?_) (fun H1 out s1 hD al => ?_)⟩
  · obtain ⟨tp, rfl, htp⟩ := ht
    refine ⟨rfl, _, rfl, tp, _, _, _, rfl, rfl, SqT.of htp, atI_nat (j := 0) rfl, _, rfl, p, _, rfl, .inr (SqT.of (s1 _ _ hp)), rfl, ?_, _, rfl, ?_⟩
    · rw [List.all_map]
      exact List.all_eq_true.mpr fun _ _ => rfl
    · show if keepW ns q = true then _ else _
      by_cases h : keepW ns q = true
      · rw [if_pos h]
        exact ⟨_, rfl, hy h _ _ (Same.refl _) ⟨tp, rfl, htp⟩⟩
      · rw [if_neg h]
        exact hn (Bool.eq_false_iff.mpr h) _ (Same.refl _)
  · refine ⟨_, rfl, r, dx, _, rfl, s1 _ _ hr0, fr_no (by decide +kernel) (by decide +kernel) (by decide +kernel) (by decide +kernel), ?_⟩
    refine ⟨_, rfl, _, rfl, r, _, dx, _, _, rfl, s1 _ _ hr0, T.cls "Request", T.noat "Request" "body", fr_body, ?_⟩
    exact ⟨r, gs, D, out, _, rfl, hR.mono s1, hD, al, ok.filter _, fun r' H' s' hR' => k r' H' (s1.trans s') (hR'.mono (new_back s1))⟩
theorem r_Wout (T : Tx K mg) : FnR PP w K mg base CX0 8 (mA K "Request" "without") (spWout K) := by
  obtain ⟨fd, F⟩ := T.says.def_ (d := d_Message_without) 50 rfl
  obtain ⟨oc, od, dV, kV, doc, pm, an, cdv, ct, osl, rfl, lk, hcd, hD, hK⟩ := F.ex
  have hdV : dV = .none := by
    rcases hD with ⟨_, h⟩ | ⟨e, _⟩
    · exact h
    · exact absurd rfl e
  subst hdV
  have hbw : ∀ us rest : List Value, us.length = ([("self" : Str)] : List Str).length → bindArgs (PySem.W.fnOf d_Message_without.name d_Message_without.qual (defArgs d_Message_without.st) (defBody d_Message_without.st) (defScope d_Message_without.st) .none kV doc pm an cdv ct) ⟨us ++ rest, []⟩ = (newTuple rest >>= fun t => pure (([("self" : Str)] : List Str).zip us ++ [(("names" : Str), t)])) :=
    StX.bind_star1 (B := fun us => bindArgs (PySem.W.fnOf d_Message_without.name d_Message_without.qual (defArgs d_Message_without.st) (defBody d_Message_without.st) (defScope d_Message_without.st) .none kV doc pm an cdv ct) ⟨us, []⟩) (fun a => rfl) (fun a r rs => rfl)
  have G := StX.fn_star (P := PP) (w := w) (mg := mg) (base := base) (k := 7) (CX := CX0) (N := ["self", "names", "others", "field"]) (ps := ["self"]) (pv := "names") (sp := spWoutT K) lk hcd sc_Wout StX.cxUp_none
    (fun us rest hl => hbw us rest hl) (fun A outer s H vs Q E hr h => by
      obtain ⟨t, p, q⟩ := b_Wout (w := w) (base := base) T cdv A outer s H vs Q E hr h
      exact ⟨t, p.nox, q⟩)
  refine G.imp fun vs H Q E h => ?_
  obtain ⟨r, ns, gs, rfl, hn, hR, ok, k⟩ := h
  refine ⟨[.ref r], ns.map V.str, rfl, rfl, by rw [List.length_map]; exact Nat.le_of_lt (small1000 (by omega)), fun p np => ?_⟩
  exact ⟨r, p, ns, gs, rfl, upd_same, hR.mono (same_upd np), ok, fun r' H' s' hR' => k r' H' ((same_upd np).trans s') (hR'.mono (new_back (same_upd np)))⟩
def OWN : List Str := ["if-no-mark", "if-changed", "range", "if-part"]
def spOwn (K : PySem.W.Frag) : Sp := fun vs H Q _ => ∃ r gs, vs = [.ref r] ∧ ReqAt K H r gs ∧ FOk gs ∧ ∀ r' H', Same H H' → ReqAt K (New H H') r' (gs.filter (keepW OWN)) → Q (.ref r') H'
theorem sc_Own : FnScope ["request"] ["request"] (defScope d_without_own.st) := ⟨rfl, rfl, rfl, by decide +kernel, rfl, by decide +kernel, by decide +kernel⟩
theorem r_Own (T : Tx K mg) : FnR PP w K mg base CX0 9 (gA K "without_own") (spOwn K) := by
  have F1 : FnR PP w K mg base CX0 8 (mA K "Request" "without") (spWout K) := r_Wout T
  refine fnr_of (d := d_without_own) T 13 rfl sc_Own (fun _ _ _ _ _ _ us hl => match us, hl with | [_], _ => rfl) (fun vs H Q E h => ?_) (fun cdv A outer s H vs Q E hr h => ?_)
  · obtain ⟨_, _, rfl, _⟩ := h
    rfl
  · obtain ⟨r, gs, rfl, hR, ok, k⟩ := h
    obtain ⟨dx, fl, ts, hr0, hfl, hts⟩ := hR
    refine ⟨_, pss_one (ps_ret (pe_methR (pv 0) (T.cls "Request") T.methWithout F1 hr pass0 (pa_cons pe_str (pa_cons pe_str (pa_cons pe_str (pa_cons pe_str pa_nil)))))), ?_⟩
    refine ⟨_, rfl, r, dx, _, rfl, hr0, fr_no (by decide +kernel) (by decide +kernel) (by decide +kernel) (by decide +kernel), ?_⟩
    exact ⟨r, OWN, gs, rfl, by decide, ⟨dx, fl, ts, hr0, hfl, hts⟩, ok, k⟩

/-! ### checking -/
/-- what is told of a mark -/
def MvAt (K : PySem.W.Frag) (H : Hp) (v : V) : Option (List Nat × Bool) → Prop
  | none => v = .non
  | some (l, wk) => ∃ m, v = .ref m ∧ MarkAt K H m l wk
theorem MvAt.mono {H H' : Hp} {v : V} {mk : Option (List Nat × Bool)} (s : Same H H') (h : MvAt K H v mk) : MvAt K H' v mk := by
  match mk, h with
  | none, h => exact h
  | some (l, wk), ⟨m, e, h⟩ => exact ⟨m, e, h.mono s⟩
/-- the fields of a check -/
def checkF (gs : List (Str × Str)) (mk : Option (List Nat × Bool)) (c : Option Int) : List (Str × Str) :=
  match mk, c with
  | some (l, wk), _ => (gs.filter (keepW OWN)).filter (fun q => decide (q.1 ≠ ("if-no-mark" : Str))) ++ [(("if-no-mark" : Str), S (wr wk l))]
  | none, some i => (gs.filter (keepW OWN)).filter (fun q => decide (q.1 ≠ ("if-changed" : Str))) ++ [(("if-changed" : Str), S (intL i))]
  | none, none => gs.filter (keepW OWN)
def MkOk (mk : Option (List Nat × Bool)) : Prop := ∀ p, mk = some p → MarkOk p.1
def RdOk (c : Option Int) : Prop := ∀ i, c = some i → i.natAbs < 1000000
theorem val_wr {l : List Nat} {wk : Bool} (ok : MarkOk l) : ValOk (S (wr wk l)) := by
  have := wr_len (l := l) (wk := wk)
  have := ok.2.1
  refine ⟨by rw [S_len]; omega, fun c hc => ?_, strip1' fun m => (wr_signs ok m).2.1 rfl⟩
  have := wr_signs ok (show c ∈ wr wk l from hc)
  unfold PlainC
  omega
theorem val_int {i : Int} (h : i.natAbs < 1000000) : ValOk (S (intL i)) := by
  have hl := intL_len h
  refine ⟨by rw [S_len]; exact Nat.le_trans hl (by decide), fun c hc => ?_, strip1' fun m => ?_⟩
  · have := intL_sign (show c ∈ intL i from hc)
    unfold PlainC
    omega
  · have h2 : (32 : Nat) = 45 ∨ (48 ≤ (32 : Nat) ∧ (32 : Nat) ≤ 57) := intL_sign m
    omega
theorem name_inm : NameOk "if-no-mark" := ⟨by decide +kernel, by decide +kernel, by decide +kernel, ⟨105, by decide +kernel, by decide +kernel⟩, by decide +kernel⟩
theorem name_ich : NameOk "if-changed" := ⟨by decide +kernel, by decide +kernel, by decide +kernel, ⟨105, by decide +kernel, by decide +kernel⟩, by decide +kernel⟩
theorem FOk.snoc {gs : List (Str × Str)} {n z : Str} (h : gs.length ≤ 39) (ok : FOk gs) (hn : NameOk n) (hz : ValOk z) (p : Str × Str → Bool) : FOk (gs.filter p ++ [(n, z)]) := by
  refine ⟨?_, fun q m => ?_⟩
  · rw [List.length_append]
    have := List.length_filter_le p gs
    show _ + 1 ≤ 40
    omega
  · rcases List.mem_append.mp m with m | m
    · exact ok.2 q (List.mem_filter.mp m).1
    · rw [List.mem_singleton.mp m]
      exact ⟨hn, hz⟩
theorem checkF_ok {gs : List (Str × Str)} {mk : Option (List Nat × Bool)} {c : Option Int} (ok : FOk gs) (h : gs.length ≤ 39) (hm : MkOk mk) (hc : RdOk c) : FOk (checkF gs mk c) := by
  have h' : (gs.filter (keepW OWN)).length ≤ 39 := Nat.le_trans (List.length_filter_le ..) h
  match mk, c with
  | some (l, wk), _ => exact FOk.snoc h' (ok.filter _) name_inm (val_wr (hm _ rfl)) _
  | none, some i => exact FOk.snoc h' (ok.filter _) name_ich (val_int (hc _ rfl)) _
  | none, none => exact ok.filter _
def spCheck (K : PySem.W.Frag) : Sp := fun vs H Q _ => ∃ r mv gs mk c, vs = [.ref r, mv, oV c] ∧ ReqAt K H r gs ∧ FOk gs ∧ gs.length ≤ 39 ∧ MvAt K H mv mk ∧ MkOk mk ∧ RdOk c ∧ ∀ r' H', Same H H' → ReqAt K (New H H') r' (checkF gs mk c) → Q (.ref r') H'
theorem sc_Check : FnScope ["request", "mark", "changed", "plain"] ["request", "mark", "changed"] (defScope d_checking.st) := ⟨rfl, rfl, rfl, by decide +kernel, rfl, by decide +kernel, by decide +kernel⟩
theorem r_Check (T : Tx K mg) : FnR PP w K mg base CX0 10 (gA K "checking") (spCheck K) := by
  have F1 : FnR PP w K mg base CX0 9 (gA K "without_own") (spOwn K) := r_Own T
  have F2 : FnR PP w K mg base CX0 8 (mA K "Request" "with_field") (spWith K) := r_With T
  have F3 : FnR PP w K mg base CX0 1 (mA K "Mark" "__str__") (spMStr K) := r_Mark_str T
  refine fnr_of (d := d_checking) T 14 rfl sc_Check (fun _ _ _ _ _ _ us hl => match us, hl with | [_, _, _], _ => rfl) (fun vs H Q E h => ?_) (fun cdv A outer s H vs Q E hr h => ?_)
  · obtain ⟨_, _, _, _, _, rfl, _⟩ := h
    rfl
  · obtain ⟨r, mv, gs, mk, c, rfl, hR, ok, hl, hm, okm, okc, k⟩ := h
    refine ⟨_, pss_cons (ps_set (i := 3) sc_Check.nd rfl (Or.inl rfl) (pe_callR F1 hr rfl (T.glo "without_own") (T.keep "without_own") pass0 (pa_cons (pv 0) pa_nil)))
      (pss_cons (ps_if (pt_cmpR op_notN (pv 1) pe_non (nomark _)) (pss_one (ps_ret (pe_methR (pv 3) (T.cls "Request") (T.meth "Request" "with_field") F2 (hr.mono (by decide)) pass0 (pa_cons pe_str (pa_cons (pe_callTy (call_strOwn T.strM.1 T.strM.2 F3 (hr.mono (by decide)) pass0) (by rfl) (T.free "str") (by decide +kernel) (pa_cons (pv 1) pa_nil)) pa_nil))))) pss_nil)
      (pss_cons (ps_if (pt_cmpR op_notN (pv 2) pe_non (nomark _)) (pss_one (ps_ret (pe_methR (pv 3) (T.cls "Request") (T.meth "Request" "with_field") F2 (hr.mono (by decide)) pass0 (pa_cons pe_str (pa_cons (pe_callTy call_str_int (by rfl) (T.free "str") (by decide +kernel) (pa_cons (pv 2) pa_nil)) pa_nil))))) pss_nil)
      (pss_one (ps_ret (pv 3))))), ?_⟩
    have okf := ok.filter (keepW OWN)
    have hl' : (gs.filter (keepW OWN)).length ≤ 39 := Nat.le_trans (List.length_filter_le ..) hl
    refine ⟨_, rfl, r, gs, rfl, hR, ok, fun r1 H1 s1 hR1 => ?_⟩
    have hP := hR1.mono (new_sub H H1)
    have hP' := hP
    obtain ⟨dx, fl, ts, hr0, hfl, hts⟩ := hP'
    match mk, c, hm, okm, okc, k with
    | some (l, wk), c, hm, okm, okc, k =>
      obtain ⟨m, e, hma⟩ := hm
      subst e
      obtain ⟨dm, em⟩ := MarkAt.mono s1 hma
      refine ⟨_, rfl, rfl, _, rfl, iteB rfl ?_⟩
      refine ⟨_, rfl, r1, dx, _, rfl, hr0, fr_no (by decide +kernel) (by decide +kernel) (by decide +kernel) (by decide +kernel), ?_⟩
      refine ⟨_, rfl, m, dm, _, rfl, em, m, l, wk, rfl, ⟨dm, em⟩, (okm _ rfl).2.1, _, rfl, ?_⟩
      exact ⟨r1, _, _, _, rfl, hP, okf, FOk.snoc hl' okf name_inm (val_wr (okm _ rfl)) _, fun r' H' s' hR' => k r' H' (s1.trans s') (hR'.mono (new_back s1))⟩
    | none, some i, hm, okm, okc, k =>
      cases hm
      refine ⟨_, rfl, rfl, _, rfl, iteN rfl ⟨_, rfl, rfl, _, rfl, iteB rfl ?_⟩⟩
      refine ⟨_, rfl, r1, dx, _, rfl, hr0, fr_no (by decide +kernel) (by decide +kernel) (by decide +kernel) (by decide +kernel), ?_⟩
      have hi := okc i rfl
      refine ⟨_, rfl, i, rfl, ?_, ?_⟩
      · have h1 : i.natAbs < 2 ^ 20 := Nat.lt_of_lt_of_le hi (by decide)
        by_cases h0 : i.natAbs = 0
        · rw [h0]
          decide
        · have := (Nat.log2_lt h0).mpr h1
          omega
      · rw [int_S]
        exact ⟨r1, _, _, _, rfl, hP, okf, FOk.snoc hl' okf name_ich (val_int hi) _, fun r' H' s' hR' => k r' H' (s1.trans s') (hR'.mono (new_back s1))⟩
    | none, none, hm, okm, okc, k =>
      cases hm
      exact ⟨_, rfl, rfl, _, rfl, iteN rfl ⟨_, rfl, rfl, _, rfl, iteN rfl ⟨_, rfl, k r1 H1 s1 hR1⟩⟩⟩
end
end K13

set_option Elab.async false
set_option linter.all false
set_option maxRecDepth 100000
set_option maxHeartbeats 4000000
/-! Conditions.of -/
namespace K13
open PySem PySem.Spec PyProof.Rows L2 SX
section
variable {w : World} {K : PySem.W.Frag} {mg : Str → Option Value} {base : Heap} {k : Nat} {N ps : List Str} {sp : Sp}

def jv : List Str → V
  | [] => .non
  | z :: _ => .str z
theorem joined_of {H : Hp} {r : Addr} {gs : List (Str × Str)} {n : Str} {vs : List Str} {Q : VK} {E : XK} (hR : ReqAt K H r gs) (ok : FOk gs) (e : valsOf n gs = vs) (h : vs.length ≤ 1) (k : ∀ H', Same H H' → Q (jv vs) H') : spJoined K [.ref r, .str n] H Q E := by
  refine ⟨r, n, gs, rfl, hR, ok, ?_⟩
  match vs, e, h, k with
  | [], e, _, k => exact .inl ⟨e, k⟩
  | [z], e, _, k => exact .inr ⟨z, e, k⟩
  | _ :: _ :: _, _, h, _ => exact absurd h (by simp)
def stL (st : Bool) : List Str := if st = true then ["*"] else []
def nmL : Option (List Nat × Bool) → List Str
  | none => []
  | some (l, wk) => [S (wr wk l)]
def chL : Option Int → List Str
  | none => []
  | some i => [S (intL i)]
theorem stL_len {st : Bool} : (stL st).length ≤ 1 := by cases st <;> decide
theorem nmL_len {nm : Option (List Nat × Bool)} : (nmL nm).length ≤ 1 := by
  match nm with
  | none => exact Nat.zero_le _
  | some (l, wk) => exact Nat.le_refl 1
theorem chL_len {ch : Option Int} : (chL ch).length ≤ 1 := by
  match ch with
  | none => exact Nat.zero_le _
  | some i => exact Nat.le_refl 1
def ImAt (K : PySem.W.Frag) (H : Hp) (v : V) (st : Bool) : Prop := if st = true then ∃ q, v = .ref q ∧ StarAt K H q else v = .non
def NmAt (K : PySem.W.Frag) (H : Hp) (v : V) : Option (List Nat × Bool) → Prop
  | none => v = .non
  | some (l, wk) => ∃ q, v = .ref q ∧ OneAt K H q l wk
theorem ImAt.mono {H H' : Hp} {v : V} {st : Bool} (s : Same H H') (h : ImAt K H v st) : ImAt K H' v st := by
  cases st with
  | true =>
    obtain ⟨q, e, f⟩ : ∃ q, v = .ref q ∧ StarAt K H q := h
    exact (⟨q, e, f.mono s⟩ : ∃ q, v = .ref q ∧ StarAt K H' q)
  | false => exact h
theorem NmAt.mono {H H' : Hp} {v : V} {nm : Option (List Nat × Bool)} (s : Same H H') (h : NmAt K H v nm) : NmAt K H' v nm := by
  match nm, h with
  | none, h => exact h
  | some (l, wk), h =>
    obtain ⟨q, e, f⟩ := h
    exact ⟨q, e, OneAt.mono s f⟩
theorem om_star {H : Hp} {st : Bool} {Q : VK} {E : XK} (k : ∀ v H', Same H H' → ImAt K (New H H') v st → Q v H') : spOM K [jv (stL st)] H Q E := by
  cases st with
  | false => exact .inl ⟨rfl, k .non H (Same.refl _) rfl⟩
  | true => exact .inr (.inl ⟨rfl, fun p H' s h => k (.ref p) H' s (show ∃ q, V.ref p = .ref q ∧ StarAt K (New H H') q from ⟨p, rfl, h⟩)⟩)
theorem om_one {H : Hp} {nm : Option (List Nat × Bool)} {Q : VK} {E : XK} (ok : MkOk nm) (k : ∀ v H', Same H H' → NmAt K (New H H') v nm → Q v H') : spOM K [jv (nmL nm)] H Q E := by
  match nm, ok, k with
  | none, _, k => exact .inl ⟨rfl, k .non H (Same.refl _) rfl⟩
  | some (l, wk), ok, k => exact .inr (.inr ⟨l, wk, rfl, ok _ rfl, fun p H' s h => k (.ref p) H' s ⟨p, rfl, h⟩⟩)
theorem or_one {H : Hp} {ch : Option Int} {Q : VK} {E : XK} (ok : RdOk ch) (k : ∀ H', Same H H' → Q (oV ch) H') : spOR [jv (chL ch)] H Q E := by
  match ch, ok, k with
  | none, _, k => exact .inl ⟨rfl, k H (Same.refl _)⟩
  | some i, ok, k => exact .inr ⟨i, rfl, ok _ rfl, k⟩

/-- the conditions of a check -/
def CondAt (K : PySem.W.Frag) (H : Hp) (p : Addr) (st : Bool) (nm : Option (List Nat × Bool)) (ch : Option Int) : Prop := ∃ dx a b e, H p = some (.ins (CD K) dx (fD a b .non (oV ch) e)) ∧ ImAt K H a st ∧ NmAt K H b nm
theorem CondAt.mono {H H' : Hp} {p : Addr} {st : Bool} {nm : Option (List Nat × Bool)} {ch : Option Int} (s : Same H H') (h : CondAt K H p st nm ch) : CondAt K H' p st nm ch := let ⟨dx, a, b, e, h1, h2, h3⟩ := h; ⟨dx, a, b, e, s _ _ h1, h2.mono s, h3.mono s⟩
structure Asks (gs : List (Str × Str)) (st : Bool) (nm : Option (List Nat × Bool)) (ch : Option Int) : Prop where
  ok : FOk gs
  im : valsOf "if-mark" gs = stL st
  im2 : valsOf "if-no-mark" gs = nmL nm
  iu : valsOf "if-unchanged" gs = []
  ic : valsOf "if-changed" gs = chL ch
  ip : valsOf "if-part" gs = []
  okm : MkOk nm
  okr : RdOk ch
def spOf (K : PySem.W.Frag) : Sp := fun vs H Q _ => ∃ r gs st nm ch, vs = [.ref (CD K), .ref r] ∧ ReqAt K H r gs ∧ Asks gs st nm ch ∧ ∀ p H', Same H H' → CondAt K (New H H') p st nm ch → Q (.ref p) H'
theorem sc_Of : FnScope ["cls", "request"] ["cls", "request"] (defScope d_Conditions_of.st) := ⟨rfl, rfl, rfl, by decide +kernel, rfl, by decide +kernel, by decide +kernel⟩
theorem r_Of (T : Tx K mg) : FnR PP w K mg base CX0 8 (cmA K "Conditions" "of") (spOf K) := by
  have F1 : FnR PP w K mg base CX0 2 (mA K "Request" "joined") (spJoined K) := r_Jn T
  have F2 : FnR PP w K mg base CX0 7 (gA K "optional_marks") (spOM K) := r_OM T
  have F3 : FnR PP w K mg base CX0 4 (gA K "optional_reading") spOR := r_OR T
  obtain ⟨fd, g, F4, hb⟩ := r_DInit (w := w) (base := base) T
  refine fnr_of (d := d_Conditions_of) T 54 rfl sc_Of (fun _ _ _ _ _ _ us hl => match us, hl with | [_, _], _ => rfl) (fun vs H Q E h => ?_) (fun cdv A outer s H vs Q E hr h => ?_)
  · obtain ⟨_, _, _, _, _, rfl, _⟩ := h
    rfl
  · obtain ⟨r, gs, st, nm, ch, rfl, hR, ask, k⟩ := h
    have hR' := hR
    obtain ⟨dx, fl, ts, hr0, hfl, hts⟩ := hR'
    refine ⟨_, pss_one (ps_ret (pe_makeKL (i := 0) (n := 1) (T.mkr "Conditions") F4 (hr.mono (by decide)) hb pass0 (pa_cons (pe_fld (pv 1) rfl) pa_nil)
      (pk_cons (pe_callR F2 hr rfl (T.glo "optional_marks") (T.keep "optional_marks") pass0 (pa_cons (pe_methR (pv 1) (T.cls "Request") (T.meth "Request" "joined") F1 (hr.mono (by decide)) pass0 (pa_cons pe_str pa_nil)) pa_nil))
      (pk_cons (pe_callR F2 hr rfl (T.glo "optional_marks") (T.keep "optional_marks") pass0 (pa_cons (pe_methR (pv 1) (T.cls "Request") (T.meth "Request" "joined") F1 (hr.mono (by decide)) pass0 (pa_cons pe_str pa_nil)) pa_nil))
      (pk_cons (pe_callR F3 (hr.mono (by decide)) rfl (T.glo "optional_reading") (T.keep "optional_reading") pass0 (pa_cons (pe_methR (pv 1) (T.cls "Request") (T.meth "Request" "joined") F1 (hr.mono (by decide)) pass0 (pa_cons pe_str pa_nil)) pa_nil))
      (pk_cons (pe_callR F3 (hr.mono (by decide)) rfl (T.glo "optional_reading") (T.keep "optional_reading") pass0 (pa_cons (pe_methR (pv 1) (T.cls "Request") (T.meth "Request" "joined") F1 (hr.mono (by decide)) pass0 (pa_cons pe_str pa_nil)) pa_nil))
      (pk_cons (pe_methR (pv 1) (T.cls "Request") (T.meth "Request" "joined") F1 (hr.mono (by decide)) pass0 (pa_cons pe_str pa_nil)) pk_nil))))) rfl (Or.inl rfl))), ?_⟩
    have nof : (fR fl).lookup ("joined" : Str) = none := fr_no (by decide +kernel) (by decide +kernel) (by decide +kernel) (by decide +kernel)
    refine ⟨rfl, _, rfl, r, _, dx, _, _, rfl, hr0, T.cls "Request", T.noat "Request" "method", fr_method, ?_⟩
    dsimp only [tCons, tNil, tC, tFn, tMethR]
    refine ⟨_, rfl, r, dx, _, rfl, hr0, nof, joined_of hR ask.ok ask.im stL_len fun H1 s1 => om_star fun a H2 s2 ha => ?_⟩
    have t2 := s1.trans s2
    refine ⟨_, rfl, r, dx, _, rfl, t2 _ _ hr0, nof, joined_of (hR.mono t2) ask.ok ask.im2 nmL_len fun H3 s3 => om_one ask.okm fun b H4 s4 hb' => ?_⟩
    have t3 := t2.trans s3
    have t4 := t3.trans s4
    refine ⟨_, rfl, r, dx, _, rfl, t4 _ _ hr0, nof, joined_of (hR.mono t4) ask.ok ask.iu (Nat.zero_le _) fun H5 s5 => or_one (ch := none) (fun _ z => nomatch z) fun H6 s6 => ?_⟩
    have t6 := t4.trans (s5.trans s6)
    refine ⟨_, rfl, r, dx, _, rfl, t6 _ _ hr0, nof, joined_of (hR.mono t6) ask.ok ask.ic chL_len fun H7 s7 => or_one ask.okr fun H8 s8 => ?_⟩
    have t8 := t6.trans (s7.trans s8)
    refine ⟨_, rfl, r, dx, _, rfl, t8 _ _ hr0, nof, joined_of (hR.mono t8) ask.ok ask.ip (Nat.zero_le _) fun H9 s9 => ?_⟩
    have t9 := t8.trans s9
    refine ⟨rfl, rfl, fun x dx' nx nd ne => ?_⟩
    refine ⟨x, dx', a, b, _, _, _, rfl, upd_same, fun HA kA hA => ⟨rfl, ?_⟩⟩
    have sA := made_same nx nd kA
    have a1 : ImAt K (New H HA) a st := (ha.mono (new_back s1)).mono (new_mono ((s3.trans s4).trans ((s5.trans s6).trans ((s7.trans s8).trans (s9.trans sA)))))
    have a2 : NmAt K (New H HA) b nm := (hb'.mono (new_back t3)).mono (new_mono ((s5.trans s6).trans ((s7.trans s8).trans (s9.trans sA))))
    exact k x HA (t9.trans sA) ⟨dx', a, b, _, new_at (t9.free nx) hA, a1, a2⟩
end
end K13

set_option Elab.async false
set_option linter.all false
set_option maxRecDepth 100000
set_option maxHeartbeats 4000000
/-! Conditions asked -/
namespace K13
open PySem PySem.Spec PyProof.Rows L2 SX
section
variable {w : World} {K : PySem.W.Frag} {mg : Str → Option Value} {base : Heap} {k : Nat} {N ps : List Str} {sp : Sp}

abbrev Mk0 : Type := Option (List Nat × Bool)
/-- what is shown of the content -/
abbrev Cu : Type := Option (Mk0 × Option Int)
def CuAt (K : PySem.W.Frag) (H : Hp) (v : V) : Cu → Prop
  | none => v = .non
  | some (mk, rd) => ∃ p mv, v = .ref p ∧ CurAt K H p mv (oV rd) ∧ MvAt K H mv mk
theorem CuAt.mono {H H' : Hp} {v : V} {cu : Cu} (s : Same H H') (h : CuAt K H v cu) : CuAt K H' v cu := by
  match cu, h with
  | none, h => exact h
  | some (mk, rd), h =>
    obtain ⟨p, mv, e, f, g⟩ := h
    exact ⟨p, mv, e, CurAt.mono s f, MvAt.mono s g⟩
def cuSome (cu : Cu) : Bool := cu.isSome
section
variable {a b c d e : V}
theorem fd_method : (fD a b c d e).lookup ("method" : Str) = some (.str "get") := lk0
theorem fd_im : (fD a b c d e).lookup ("if_mark" : Str) = some a := (lkS (by decide +kernel)).trans lk0
theorem fd_inm : (fD a b c d e).lookup ("if_no_mark" : Str) = some b := (lkS (by decide +kernel)).trans ((lkS (by decide +kernel)).trans lk0)
theorem fd_iu : (fD a b c d e).lookup ("if_unchanged" : Str) = some c := (lkS (by decide +kernel)).trans ((lkS (by decide +kernel)).trans ((lkS (by decide +kernel)).trans lk0))
theorem fd_ic : (fD a b c d e).lookup ("if_changed" : Str) = some d := (lkS (by decide +kernel)).trans ((lkS (by decide +kernel)).trans ((lkS (by decide +kernel)).trans ((lkS (by decide +kernel)).trans lk0)))
theorem fd_no {m : Str} (h : (m == ("method" : Str)) = false ∧ (m == ("if_mark" : Str)) = false ∧ (m == ("if_no_mark" : Str)) = false ∧ (m == ("if_unchanged" : Str)) = false ∧ (m == ("if_changed" : Str)) = false ∧ (m == ("if_part" : Str)) = false) : (fD a b c d e).lookup m = none :=
  (lkS h.1).trans ((lkS h.2.1).trans ((lkS h.2.2.1).trans ((lkS h.2.2.2.1).trans ((lkS h.2.2.2.2.1).trans (lkS h.2.2.2.2.2)))))
end
theorem fl_no {q : Addr} {b : Bool} {m : Str} (h1 : (m == ("marks" : Str)) = false) (h2 : (m == ("star" : Str)) = false) : (fL q b).lookup m = none := look2n h1 h2

/-! ### binding_holds -/
def bindB (st : Bool) (cu : Cu) : Bool := !st || cu.isSome
def spBind (K : PySem.W.Frag) : Sp := fun vs H Q _ => ∃ p v st nm ch cu, vs = [.ref p, v] ∧ CondAt K H p st nm ch ∧ CuAt K H v cu ∧ Q (.bl (bindB st cu)) H
theorem sc_Bind : FnScope ["self", "current"] ["self", "current"] (defScope d_Conditions_binding_holds.st) := ⟨rfl, rfl, rfl, by decide +kernel, rfl, by decide +kernel, by decide +kernel⟩
theorem r_Bind (T : Tx K mg) : FnR PP w K mg base CX0 2 (mA K "Conditions" "binding_holds") (spBind K) := by
  have F1 : FnR PP w K mg base CX0 1 (mA K "MarkList" "strongly") (spStrong K) := r_LStrong T
  refine fnr_of (d := d_Conditions_binding_holds) T 44 rfl sc_Bind (fun _ _ _ _ _ _ us hl => match us, hl with | [_, _], _ => rfl) (fun vs H Q E h => ?_) (fun cdv A outer s H vs Q E hr h => ?_)
  · obtain ⟨_, _, _, _, _, _, rfl, _⟩ := h
    rfl
  · obtain ⟨p, v, st, nm, ch, cu, rfl, ⟨dx, a, b, e, hp, ha, hb⟩, hv, k⟩ := h
    refine ⟨_, pss_cons (ps_if (pt_cmpR op_notN (pe_fld (pv 0) rfl) pe_non (nomark _)) (pss_one (ps_ret (pe_and (pe_cmpR op_notN (pv 1) pe_non (nomark _)) (pe_one (pe_methR (pe_fld (pv 0) rfl) (T.cls "MarkList") (T.meth "MarkList" "strongly") F1 hr pass0 (pa_cons (pe_fld (pv 1) rfl) pa_nil)))))) pss_nil)
      (pss_cons (ps_if (pt_cmpR op_notN (pe_fld (pv 0) rfl) pe_non (nomark _)) pss_never pss_nil) (pss_one (ps_ret pe_bl))), ?_⟩
    refine ⟨_, rfl, p, _, dx, _, _, rfl, hp, T.cls "Conditions", T.noat "Conditions" "if_mark", fd_im, rfl, _, rfl, ?_⟩
    cases st with
    | false =>
      have ha : a = .non := ha
      subst ha
      exact iteN rfl ⟨_, rfl, p, _, dx, _, _, rfl, hp, T.cls "Conditions", T.noat "Conditions" "if_unchanged", fd_iu, rfl, _, rfl, iteN rfl k⟩
    | true =>
      obtain ⟨q, e', hq⟩ : ∃ q, a = .ref q ∧ StarAt K H q := ha
      subst e'
      refine iteB rfl ?_
      match cu, hv, k with
      | none, hv, k =>
        cases hv
        exact ⟨_, rfl, rfl, _, rfl, iteN rfl k⟩
      | some (mk, rd), ⟨c, mv, e2, ⟨dc, hc⟩, hm⟩, k =>
        subst e2
        have hq' := hq
        obtain ⟨dq, l, hq0⟩ := hq'
        refine ⟨_, rfl, rfl, _, rfl, iteB rfl ?_⟩
        refine ⟨_, rfl, p, _, dx, _, _, rfl, hp, T.cls "Conditions", T.noat "Conditions" "if_mark", fd_im, q, dq, _, rfl, hq0, fl_no (by decide +kernel) (by decide +kernel), ?_⟩
        exact ⟨_, rfl, c, _, dc, _, _, rfl, hc, T.cls "Current", T.noat "Current" "mark", fc_mark, q, mv, rfl, hq, k⟩

/-! ### known_unchanged -/
def knownB (ch : Option Int) (cu : Cu) : Bool := match ch, cu with
  | some i, some (_, some r) => decide (r ≤ i)
  | _, _ => false
def spKnown (K : PySem.W.Frag) : Sp := fun vs H Q _ => ∃ p v st nm ch cu, vs = [.ref p, v] ∧ CondAt K H p st nm ch ∧ CuAt K H v cu ∧ Q (.bl (knownB ch cu)) H
theorem sc_Known : FnScope ["self", "current"] ["self", "current"] (defScope d_Conditions_known_unchanged.st) := ⟨rfl, rfl, rfl, by decide +kernel, rfl, by decide +kernel, by decide +kernel⟩
theorem r_Known (T : Tx K mg) : FnR PP w K mg base CX0 1 (mA K "Conditions" "known_unchanged") (spKnown K) := by
  refine fnr_of (d := d_Conditions_known_unchanged) T 45 rfl sc_Known (fun _ _ _ _ _ _ us hl => match us, hl with | [_, _], _ => rfl) (fun vs H Q E h => ?_) (fun cdv A outer s H vs Q E hr h => ?_)
  · obtain ⟨_, _, _, _, _, _, rfl, _⟩ := h
    rfl
  · obtain ⟨p, v, st, nm, ch, cu, rfl, ⟨dx, a, b, e, hp, ha, hb⟩, hv, k⟩ := h
    refine ⟨_, pss_cons (ps_if (PW.pt (pw_or (pt_cmpR op_isN (pe_fld (pv 0) rfl) pe_non (nomark _)) (pw_or (pt_cmpR op_ne (pe_fld (pv 0) rfl) pe_str (nomark _)) (pw_or1 (pt_cmpR op_isN (pv 1) pe_non (nomark _)))))) (pss_one (ps_ret pe_bl)) pss_nil)
      (pss_one (ps_ret (pe_and (pe_cmpR op_notN (pe_fld (pv 1) rfl) pe_non (nomark _)) (pe_one (pe_cmpR op_le (pe_fld (pv 1) rfl) (pe_fld (pv 0) rfl) (nomark _)))))), ?_⟩
    refine ⟨_, rfl, p, _, dx, _, _, rfl, hp, T.cls "Conditions", T.noat "Conditions" "if_changed", fd_ic, rfl, _, rfl, ?_⟩
    match ch, k with
    | none, k => exact iteB rfl (qb (Q := Q) (by cases cu <;> rfl) k)
    | some i, k =>
      refine iteN rfl ⟨_, rfl, p, _, dx, _, _, rfl, hp, T.cls "Conditions", T.noat "Conditions" "method", fd_method, rfl, _, rfl, iteN (by decide +kernel) ⟨_, rfl, rfl, _, rfl, ?_⟩⟩
      match cu, hv, k with
      | none, hv, k =>
        cases hv
        exact iteB rfl k
      | some (mk, rd), ⟨c, mv, e2, ⟨dc, hc⟩, hm⟩, k =>
        subst e2
        refine iteN rfl ⟨_, rfl, c, _, dc, _, _, rfl, hc, T.cls "Current", T.noat "Current" "changed", fc_changed, rfl, _, rfl, ?_⟩
        match rd, hc, k with
        | none, hc, k => exact iteN rfl k
        | some r, hc, k => exact iteB rfl ⟨_, rfl, c, _, dc, _, _, rfl, hc, T.cls "Current", T.noat "Current" "changed", fc_changed, _, rfl, p, _, dx, _, _, rfl, hp, T.cls "Conditions", T.noat "Conditions" "if_changed", fd_ic, _, _, rfl, rfl, k⟩

/-! ### __call__ -/
def ans (st : Bool) (nm : Mk0) (ch : Option Int) (cu : Cu) : Str :=
  if bindB st cu = true then
    match nm with
    | none => if knownB ch cu = true then "same" else "go"
    | some (l, _) => match cu with
      | some (some (l', _), _) => if l = l' then "same" else "go"
      | _ => "go"
  else "failed"
def spAsk (K : PySem.W.Frag) : Sp := fun vs H Q _ => ∃ p v st nm ch cu, vs = [.ref p, v] ∧ CondAt K H p st nm ch ∧ CuAt K H v cu ∧ (nm ≠ none → ∀ c, cu = some c → c.1 ≠ none) ∧ ∀ H', Same H H' → Q (.str (ans st nm ch cu)) H'
theorem sc_Ask : FnScope ["self", "current"] ["self", "current"] (defScope d_Conditions_call.st) := ⟨rfl, rfl, rfl, by decide +kernel, rfl, by decide +kernel, by decide +kernel⟩
theorem r_Ask (T : Tx K mg) : FnR PP w K mg base CX0 3 (mA K "Conditions" "__call__") (spAsk K) := by
  have F1 : FnR PP w K mg base CX0 2 (mA K "Conditions" "binding_holds") (spBind K) := r_Bind T
  have F2 : FnR PP w K mg base CX0 1 (mA K "Conditions" "known_unchanged") (spKnown K) := r_Known T
  have F3 : FnR PP w K mg base CX0 2 (mA K "MarkList" "weakly") (spWeak K) := r_LWeak T
  refine fnr_of (d := d_Conditions_call) T 43 rfl sc_Ask (fun _ _ _ _ _ _ us hl => match us, hl with | [_, _], _ => rfl) (fun vs H Q E h => ?_) (fun cdv A outer s H vs Q E hr h => ?_)
  · obtain ⟨_, _, _, _, _, _, rfl, _⟩ := h
    rfl
  · obtain ⟨p, v, st, nm, ch, cu, rfl, hC, hv, hnm, k⟩ := h
    have hC' := hC
    obtain ⟨dx, a, b, e, hp, ha, hb⟩ := hC'
    refine ⟨_, pss_cons (ps_if (pt_not (pt_val (pe_methR (pv 0) (T.cls "Conditions") (T.meth "Conditions" "binding_holds") F1 hr pass0 (pa_cons (pv 1) pa_nil)))) (pss_one (ps_ret pe_str)) pss_nil)
      (pss_cons (ps_if (pt_cmpR op_isN (pe_fld (pv 0) rfl) pe_non (nomark _)) (pss_one (ps_ret (pe_ifExp (pt_val (pe_methR (pv 0) (T.cls "Conditions") (T.meth "Conditions" "known_unchanged") F2 (hr.mono (by decide)) pass0 (pa_cons (pv 1) pa_nil))) pe_str pe_str))) pss_nil)
      (pss_cons (ps_if (PW.pt (pw_or (pt_cmpR op_isN (pv 1) pe_non (nomark _)) (pw_or1 (pt_not (pt_val (pe_methR (pe_fld (pv 0) rfl) (T.cls "MarkList") (T.meth "MarkList" "weakly") F3 hr pass0 (pa_cons (pe_fld (pv 1) rfl) pa_nil))))))) (pss_one (ps_ret pe_str)) pss_nil)
      (pss_one (ps_ret (pe_ifExp (pt_cmpR op_eq (pe_fld (pv 0) rfl) pe_str (nomark _)) pe_str pe_str))))), ?_⟩
    have no1 : (fD a b .non (oV ch) e).lookup ("binding_holds" : Str) = none := fd_no (by decide +kernel)
    have no2 : (fD a b .non (oV ch) e).lookup ("known_unchanged" : Str) = none := fd_no (by decide +kernel)
    refine ⟨_, rfl, p, dx, _, rfl, hp, no1, _, rfl, p, v, st, nm, ch, cu, rfl, hC, hv, _, rfl, ?_⟩
    cases hbd : bindB st cu with
    | false => exact iteT (qs (Q := Q) (by unfold ans; rw [hbd]; rfl) (k H (Same.refl _)))
    | true =>
      refine iteF ⟨_, rfl, p, _, dx, _, _, rfl, hp, T.cls "Conditions", T.noat "Conditions" "if_no_mark", fd_inm, rfl, _, rfl, ?_⟩
      match nm, hb, hnm, hC, k with
      | none, hb, hnm, hC, k =>
        have hb : b = .non := hb
        subst hb
        refine iteB rfl ⟨_, rfl, p, dx, _, rfl, hp, no2, _, rfl, p, v, st, none, ch, cu, rfl, hC, hv, _, rfl, ?_⟩
        cases hk : knownB ch cu with
        | true => exact iteT (qs (Q := Q) (by unfold ans; rw [hbd, hk]; rfl) (k H (Same.refl _)))
        | false => exact iteF (qs (Q := Q) (by unfold ans; rw [hbd, hk]; rfl) (k H (Same.refl _)))
      | some (l, wk), hb, hnm, hC, k =>
        obtain ⟨q, e1, hq⟩ := hb
        subst e1
        refine iteN rfl ⟨_, rfl, rfl, _, rfl, ?_⟩
        match cu, hv, hnm, hbd, k with
        | none, hv, hnm, hbd, k =>
          cases hv
          exact iteB rfl (qs (Q := Q) (by unfold ans; rw [hbd]; rfl) (k H (Same.refl _)))
        | some (none, rd), hv, hnm, hbd, k => exact absurd rfl (hnm (fun z => nomatch z) _ rfl)
        | some (some (l', wk'), rd), hv, hnm, hbd, k =>
          obtain ⟨c, mv, e2, ⟨dc, hc⟩, hm⟩ := hv
          subst e2
          obtain ⟨m, e3, hm⟩ := hm
          subst e3
          have hq' := hq
          obtain ⟨dq, lq, mq, hq0, _, _⟩ := hq'
          refine iteN rfl ⟨_, rfl, p, _, dx, _, _, rfl, hp, T.cls "Conditions", T.noat "Conditions" "if_no_mark", fd_inm, q, dq, _, rfl, hq0, fl_no (by decide +kernel) (by decide +kernel), ?_⟩
          refine ⟨_, rfl, c, _, dc, _, _, rfl, hc, T.cls "Current", T.noat "Current" "mark", fc_mark, q, m, l, l', wk, wk', rfl, hq, hm, fun H1 s1 => ⟨_, rfl, ?_⟩⟩
          by_cases h : l = l'
          · rw [decide_eq_true h]
            refine iteF ⟨_, rfl, p, _, dx, _, _, rfl, s1 _ _ hp, T.cls "Conditions", T.noat "Conditions" "method", fd_method, rfl, _, rfl, iteB (by decide +kernel) (qs (Q := Q) ?_ (k H1 s1))⟩
            unfold ans
            rw [hbd]
            show ("same" : Str) = if l = l' then ("same" : Str) else ("go" : Str)
            rw [if_pos h]
          · rw [decide_eq_false h]
            refine iteT (qs (Q := Q) ?_ (k H1 s1))
            unfold ans
            rw [hbd]
            show ("go" : Str) = if l = l' then ("same" : Str) else ("go" : Str)
            rw [if_neg h]
end
end K13

set_option Elab.async false
set_option linter.all false
set_option maxRecDepth 100000
set_option maxHeartbeats 4000000
/-! the law's bag -/
namespace K13
open PySem PySem.Spec PyProof.Rows L2 SX
section
variable {w : World} {K : PySem.W.Frag} {mg : Str → Option Value} {base : Heap} {k : Nat} {N ps : List Str} {sp : Sp}

/-- the bag: its numbers, how many were taken, two more -/
def BagAt (H : Hp) (b cl : Addr) : Prop := ∃ cs n x y, H b = some (.lst [.ref cl, .int ((n : Nat) : Int), .int x, .int y]) ∧ H cl = some (.lst ((cs : List Int).map V.int))
theorem BagAt.mono {H H' : Hp} {b cl : Addr} (s : Same H H') (h : BagAt H b cl) : BagAt H' b cl := let ⟨cs, n, x, y, e, f⟩ := h; ⟨cs, n, x, y, s _ _ e, s _ _ f⟩
theorem BagAt.has {H : Hp} {b cl : Addr} (h : BagAt H b cl) : ∃ xs, H b = some (.lst xs) := let ⟨cs, n, x, y, e, f⟩ := h; ⟨_, e⟩
theorem BagAt.kpn {H H' : Hp} {b cl d : Addr} (h : BagAt H b cl) (k : Kp d H H') (n1 : b ≠ d) (n2 : cl ≠ d) : BagAt H' b cl := let ⟨cs, n, x, y, e, f⟩ := h; ⟨cs, n, x, y, k _ _ n1 e, k _ _ n2 f⟩
theorem BagAt.hasC {H : Hp} {b cl : Addr} (h : BagAt H b cl) : ∃ xs, H cl = some (.lst xs) := let ⟨cs, n, x, y, e, f⟩ := h; ⟨_, f⟩
theorem BagAt.kp {H H' : Hp} {b cl d : Addr} {o : HO} (h : BagAt H b cl) (k : Kp d H H') (hd : H d = some o) (nl : ∀ xs, o ≠ .lst xs) : BagAt H' b cl := by
  obtain ⟨cs, n, x, y, e, f⟩ := h
  exact ⟨cs, n, x, y, k _ _ (fun z => nl _ (by rw [z, hd] at e; exact Option.some.inj e)) e, k _ _ (fun z => nl _ (by rw [z, hd] at f; exact Option.some.inj f)) f⟩
theorem cutV_int (ns : List Int) (lo hi : Option Int) : ∃ cs : List Int, cutV (ns.map V.int) lo hi = cs.map V.int := by
  unfold cutV
  rw [List.length_map, ← List.map_drop, ← List.map_take]
  exact ⟨_, rfl⟩

theorem iteAny {b : Bool} {A B : Prop} (h : A) (h' : B) : if b = true then A else B := by
  cases b
  · exact iteF h'
  · exact iteT h
theorem cmulR {i j : Int} (h : -(2 ^ 64) < j ∧ j < 2 ^ 64) : CMul i j := .inr h
/-! ### _law_bag -/
def spBag (K : PySem.W.Frag) : Sp := fun vs H Q _ => ∃ a ns, vs = [.ref a] ∧ SqL K H a ((ns : List Int).map V.int) ∧ ∀ b cl H', Same H H' → H b = none → H cl = none → BagAt H' b cl → Q (.ref b) H'
theorem sc_bag : FnScope ["_law_script"] ["_law_script"] (defScope d_law_bag.st) := ⟨rfl, rfl, rfl, by decide +kernel, rfl, by decide +kernel, by decide +kernel⟩
theorem r_bag (T : Tx K mg) : FnR PP w K mg base CX0 1 (gA K "_law_bag") (spBag K) := by
  refine fnr_of (d := d_law_bag) T 16 rfl sc_bag (fun _ _ _ _ _ _ us hl => match us, hl with | [_], _ => rfl) (fun vs H Q E h => ?_) (fun cdv A outer s H vs Q E hr h => ?_)
  · obtain ⟨_, _, rfl, _⟩ := h
    rfl
  · obtain ⟨a, ns, rfl, ha, k⟩ := h
    refine ⟨_, pss_one (ps_ret (pe_lst (pa_cons (pe_callTy call_list_of (by rfl) (T.free "list") (by decide +kernel) (pa_cons (pe_slice sl_list (pv 0) po_none (po_some pe_int)) pa_nil)) (pa_cons pe_int (pa_cons pe_int (pa_cons pe_int pa_nil)))))), ?_⟩
    obtain ⟨cs, ec⟩ := cutV_int ns none (some 63)
    refine ⟨_, rfl, _, rfl, a, _, rfl, ha, fun p np => ?_⟩
    rw [ec]
    refine ⟨p, _, rfl, .inl (SqL.of upd_same), fun l nl => ?_⟩
    have s1 : Same H (upd H p (.lst (cs.map V.int))) := same_upd np
    have s2 := s1.trans (same_upd (o := .lst (cs.map V.int)) nl)
    refine ⟨(by show 4 ≤ sizeLine; rw [sizeLine_eq]; decide), fun b nb => ?_⟩
    refine k b l _ (s2.trans (same_upd nb)) (s2.free nb) (s1.free nl) ⟨cs, 0, 0, 0, upd_same, ?_⟩
    rw [upd_ne (ne_of_none (upd_same (H := upd H p (.lst (cs.map V.int))) (a := l)) nb), upd_same]

/-! ### _law_take -/
def spTake : Sp := fun vs H Q _ => ∃ b n, vs = [.ref b, .int n] ∧ ∃ cl, BagAt H b cl ∧ 0 < n ∧ n < 1000000 ∧ ∀ r H', 0 ≤ r → r < n → Kp b H H' → BagAt H' b cl → Q (.int r) H'
theorem sc_take : FnScope ["_law_bag_here", "_law_limit", "_law_cell", "_law_drawn"] ["_law_bag_here", "_law_limit"] (defScope d_law_take.st) := ⟨rfl, rfl, rfl, by decide +kernel, rfl, by decide +kernel, by decide +kernel⟩
theorem r_take (T : Tx K mg) : FnR PP w K mg base CX0 1 (gA K "_law_take") spTake := by
  refine fnr_of (d := d_law_take) T 17 rfl sc_take (fun _ _ _ _ _ _ us hl => match us, hl with | [_, _], _ => rfl) (fun vs H Q E h => ?_) (fun cdv A outer s H vs Q E hr h => ?_)
  · obtain ⟨_, _, rfl, _⟩ := h
    rfl
  · obtain ⟨b, n, rfl, cl, ⟨cs, p, x, y, hb, hc⟩, n0, n1, k⟩ := h
    refine ⟨_, pss_cons (ps_if (pt_cmpR op_eq (pe_ix ix_list (pv 0) pe_int (fun _ _ => rfl)) pe_int (nomark _))
        (pss_cons (ps_set (i := 2) sc_take.nd rfl (Or.inl rfl) pe_int)
        (pss_cons (ps_if (pt_cmpR op_lt (pe_ix ix_list (pv 0) pe_int (fun _ _ => rfl)) (pe_callB call_len_seq (by rfl) (T.free "len") PySem.boot_len (pa_cons (pe_ix ix_list (pv 0) pe_int (fun _ _ => rfl)) pa_nil)) (nomark _))
          (pss_cons (ps_set (i := 2) sc_take.nd rfl (Or.inl rfl) (pe_ix ix_list (pe_ix ix_list (pv 0) pe_int (fun _ _ => rfl)) (pe_ix ix_list (pv 0) pe_int (fun _ _ => rfl)) (fun _ _ => rfl)))
          (pss_one (ps_asg (pe_op op_add (pe_ix ix_list (pv 0) pe_int (fun _ _ => rfl)) pe_int) (pg_sub (pv 0) pe_int set_list)))) pss_nil)
        (pss_cons (ps_asg (pe_op op_mod (pe_callTy call_int1 (by rfl) (T.free "int") (by decide +kernel) (pa_cons (pe_op op_mul (pe_op op_add (pe_ix ix_list (pv 0) pe_int (fun _ _ => rfl)) (pv 2)) pe_int) pa_nil)) pe_int) (pg_sub (pv 0) pe_int set_list))
        (pss_cons (ps_if (pt_cmpR op_lt (pv 2) (pe_op op_pow pe_int pe_int) (nomark _)) (pss_one (ps_ret (pe_op op_mod (pe_op op_mod (pe_callTy call_int1 (by rfl) (T.free "int") (by decide +kernel) (pa_cons (pe_op op_mul (pe_ix ix_list (pv 0) pe_int (fun _ _ => rfl)) pe_int) pa_nil)) pe_int) (pv 1)))) pss_nil)
        (pss_one (ps_asg (pv 2) (pg_sub (pv 0) pe_int set_list))))))) pss_nil)
      (pss_cons (ps_set (i := 3) sc_take.nd rfl (Or.inl rfl) (pe_op op_mod (pe_callTy call_int1 (by rfl) (T.free "int") (by decide +kernel) (pa_cons (pe_ix ix_list (pv 0) pe_int (fun _ _ => rfl)) pa_nil)) (pv 1)))
      (pss_cons (ps_asg (pe_op op_fdiv (pe_callTy call_int1 (by rfl) (T.free "int") (by decide +kernel) (pa_cons (pe_ix ix_list (pv 0) pe_int (fun _ _ => rfl)) pa_nil)) (pv 1)) (pg_sub (pv 0) pe_int set_list))
      (pss_one (ps_ret (pv 3))))), ?_⟩
    have ncb : cl ≠ b := fun e => by
      rw [e, hb] at hc
      have := congrArg List.head? (HO.lst.inj (Option.some.inj hc))
      cases cs with
      | nil => cases this
      | cons c cs => cases this
    have fin : ∀ (H1 : Hp) (p' : Nat) (x' y' : Int) (r : Int), Kp b H H1 → H1 cl = some (.lst (cs.map V.int)) → H1 b = some (.lst [.ref cl, .int (p' : Int), .int x', .int y']) → 0 ≤ r → r < n → Q (.int r) H1 := fun H1 p' x' y' r kp h1 h2 r0 r1 => k r H1 r0 r1 kp ⟨cs, p', x', y', h2, h1⟩
    have kpu : ∀ (H1 : Hp) (o : HO), Kp b H H1 → Kp b H (upd H1 b o) := fun H1 o kp => kp.trans kp_upd
    have clu : ∀ (H1 : Hp) (o : HO), H1 cl = some (.lst (cs.map V.int)) → upd H1 b o cl = some (.lst (cs.map V.int)) := fun H1 o h => by rw [upd_ne ncb]; exact h
    have kp0 : Kp b H H := Kp.refl b H
    have m0 : ∀ i : Int, 0 ≤ i % n := fun i => Int.emod_nonneg _ (Int.ne_of_gt n0)
    have m1 : ∀ i : Int, i % n < n := fun i => Int.emod_lt_of_pos _ n0
    have d0 : 0 < n ∧ n < 1073741824 := ⟨n0, Int.lt_trans n1 (by decide)⟩
    refine ⟨_, rfl, b, _, _, _, rfl, rfl, SqL.of hb, atI_nat (j := 2) rfl, rfl, _, rfl, ?_⟩
    by_cases hx : x = 0
    · subst hx
      refine iteB (decide_eq_true rfl) ?_
      refine ⟨_, rfl, b, _, _, _, rfl, rfl, SqL.of hb, atI_nat (j := 1) rfl, _, rfl, b, _, _, _, rfl, rfl, SqL.of hb, atI_nat (j := 0) rfl, cl, _, rfl, .inl (SqL.of hc), _, _, rfl, rfl, _, rfl, ?_⟩
      by_cases hp : p < cs.length
      · refine iteB (decide_eq_true (by rw [List.length_map]; omega)) ?_
        have hg : (cs.map V.int)[p]? = some (.int cs[p]) := by
          rw [List.getElem?_map, List.getElem?_eq_getElem hp]
          rfl
        refine ⟨_, rfl, b, _, _, _, rfl, rfl, SqL.of hb, atI_nat (j := 0) rfl, _, rfl, b, _, _, _, rfl, rfl, SqL.of hb, atI_nat (j := 1) rfl, cl, _, _, _, rfl, rfl, SqL.of hc, atI_nat (j := p) hg, ?_⟩
        refine ⟨_, rfl, b, _, _, _, rfl, rfl, SqL.of hb, atI_nat (j := 1) rfl, _, _, rfl, rfl, _, rfl, b, _, _, 1, rfl, rfl, hb, rfl, ?_⟩
        refine ⟨_, rfl, b, _, _, _, rfl, rfl, SqL.of upd_same, atI_nat (j := 3) rfl, _, rfl, _, _, rfl, rfl, _, _, rfl, rfl, cmulR (by decide), .inl ⟨_, rfl, _, _, rfl, rfl, (by show (0:Int) < 2147483647; decide), _, rfl, b, _, _, 3, rfl, rfl, upd_same, rfl, ?_⟩⟩
        refine ⟨_, rfl, _, _, rfl, rfl, ⟨by decide, by decide, by decide⟩, _, _, rfl, rfl, _, rfl, iteAny ?_ ?_⟩
        · refine ⟨_, rfl, b, _, _, _, rfl, rfl, SqL.of upd_same, atI_nat (j := 3) rfl, _, _, rfl, rfl, cmulR (by decide), .inl ⟨_, rfl, _, _, rfl, rfl, (by show (0:Int) < 2147483399; decide), _, rfl, _, _, rfl, rfl, n0, ?_⟩⟩
          exact fin _ (p + 1) _ _ _ (kpu _ _ (kpu _ _ kp0)) (clu _ _ (clu _ _ hc)) upd_same (m0 _) (m1 _)
        · refine ⟨_, rfl, _, rfl, b, _, _, 2, rfl, rfl, upd_same, rfl, ?_⟩
          refine ⟨_, rfl, b, _, _, _, rfl, rfl, SqL.of upd_same, atI_nat (j := 2) rfl, .inl ⟨_, rfl, _, rfl, _, _, rfl, rfl, n0, ?_⟩⟩
          refine ⟨_, rfl, b, _, _, _, rfl, rfl, SqL.of upd_same, atI_nat (j := 2) rfl, .inl ⟨_, rfl, _, rfl, _, _, rfl, rfl, d0, _, rfl, b, _, _, 2, rfl, rfl, upd_same, rfl, _, rfl, ?_⟩⟩
          exact fin _ (p + 1) _ _ _ (kpu _ _ (kpu _ _ (kpu _ _ (kpu _ _ kp0)))) (clu _ _ (clu _ _ (clu _ _ (clu _ _ hc)))) upd_same (m0 _) (m1 _)
      · refine iteN (decide_eq_false (by rw [List.length_map]; omega)) ?_
        refine ⟨_, rfl, b, _, _, _, rfl, rfl, SqL.of hb, atI_nat (j := 3) rfl, _, rfl, _, _, rfl, rfl, _, _, rfl, rfl, cmulR (by decide), .inl ⟨_, rfl, _, _, rfl, rfl, (by show (0:Int) < 2147483647; decide), _, rfl, b, _, _, 3, rfl, rfl, hb, rfl, ?_⟩⟩
        refine ⟨_, rfl, _, _, rfl, rfl, ⟨by decide, by decide, by decide⟩, _, _, rfl, rfl, _, rfl, iteAny ?_ ?_⟩
        · refine ⟨_, rfl, b, _, _, _, rfl, rfl, SqL.of upd_same, atI_nat (j := 3) rfl, _, _, rfl, rfl, cmulR (by decide), .inl ⟨_, rfl, _, _, rfl, rfl, (by show (0:Int) < 2147483399; decide), _, rfl, _, _, rfl, rfl, n0, ?_⟩⟩
          exact fin _ p _ _ _ (kpu _ _ kp0) (clu _ _ hc) upd_same (m0 _) (m1 _)
        · refine ⟨_, rfl, _, rfl, b, _, _, 2, rfl, rfl, upd_same, rfl, ?_⟩
          refine ⟨_, rfl, b, _, _, _, rfl, rfl, SqL.of upd_same, atI_nat (j := 2) rfl, .inl ⟨_, rfl, _, rfl, _, _, rfl, rfl, n0, ?_⟩⟩
          refine ⟨_, rfl, b, _, _, _, rfl, rfl, SqL.of upd_same, atI_nat (j := 2) rfl, .inl ⟨_, rfl, _, rfl, _, _, rfl, rfl, d0, _, rfl, b, _, _, 2, rfl, rfl, upd_same, rfl, _, rfl, ?_⟩⟩
          exact fin _ p _ _ _ (kpu _ _ (kpu _ _ (kpu _ _ kp0))) (clu _ _ (clu _ _ (clu _ _ hc))) upd_same (m0 _) (m1 _)
    · refine iteN (decide_eq_false fun e => hx (V.int.inj e)) ?_
      refine ⟨_, rfl, b, _, _, _, rfl, rfl, SqL.of hb, atI_nat (j := 2) rfl, .inl ⟨_, rfl, _, rfl, _, _, rfl, rfl, n0, ?_⟩⟩
      refine ⟨_, rfl, b, _, _, _, rfl, rfl, SqL.of hb, atI_nat (j := 2) rfl, .inl ⟨_, rfl, _, rfl, _, _, rfl, rfl, d0, _, rfl, b, _, _, 2, rfl, rfl, hb, rfl, _, rfl, ?_⟩⟩
      exact fin _ p _ _ _ (kpu _ _ kp0) (clu _ _ hc) upd_same (m0 _) (m1 _)
end
end K13

set_option Elab.async false
set_option linter.all false
set_option maxRecDepth 100000
set_option maxHeartbeats 4000000
/-! the law's texts -/
namespace K13
open PySem PySem.Spec PyProof.Rows L2 SX
section
variable {w : World} {K : PySem.W.Frag} {mg : Str → Option Value} {base : Heap} {k : Nat} {N ps : List Str} {sp : Sp}

abbrev SIGNS : List Nat := ("abcdefghijklmnopqrstuvwxyz0123456789-." : Str).cps.toList
theorem signs_mark {c : Nat} (h : c ∈ SIGNS) : c ∈ ("abcdefghijklmnopqrstuvwxyz0123456789.-" : Str).cps.toList := by
  have e : SIGNS.all (fun c => decide (c ∈ ("abcdefghijklmnopqrstuvwxyz0123456789.-" : Str).cps.toList)) = true := by decide +kernel
  exact of_decide_eq_true (List.all_eq_true.mp e c h)
theorem signs_len : SIGNS.length = 38 := by decide +kernel

/-! ### _law_letter -/
def spLetter : Sp := fun vs H Q _ => ∃ n, vs = [.int n] ∧ ∀ c, c ∈ SIGNS → Q (.str ⟨#[c]⟩) H
theorem sc_letter : FnScope ["_law_number"] ["_law_number"] (defScope d_law_letter.st) := ⟨rfl, rfl, rfl, by decide +kernel, rfl, by decide +kernel, by decide +kernel⟩
theorem at_signs (n : Int) : ∃ c, c ∈ SIGNS ∧ atI SIGNS (n % 38) = some c := by
  have h0 : 0 ≤ n % 38 := Int.emod_nonneg _ (by decide)
  have h1 : n % 38 < 38 := Int.emod_lt_of_pos _ (by decide)
  obtain ⟨j, hj⟩ : ∃ j : Nat, n % 38 = (j : Int) := ⟨(n % 38).toNat, by omega⟩
  have hj2 : j < SIGNS.length := by rw [signs_len]; omega
  exact ⟨SIGNS[j], List.getElem_mem hj2, by rw [hj]; exact atI_nat (List.getElem?_eq_getElem hj2)⟩
theorem r_letter (T : Tx K mg) : FnR PP w K mg base CX0 1 (gA K "_law_letter") spLetter := by
  refine fnr_of (d := d_law_letter) T 18 rfl sc_letter (fun _ _ _ _ _ _ us hl => match us, hl with | [_], _ => rfl) (fun vs H Q E h => ?_) (fun cdv A outer s H vs Q E hr h => ?_)
  · obtain ⟨_, rfl, _⟩ := h
    rfl
  · obtain ⟨n, rfl, k⟩ := h
    refine ⟨_, pss_one (ps_ret (pe_ix ix_str pe_str (pe_op op_mod (pe_callTy call_int1 (by rfl) (T.free "int") (by decide +kernel) (pa_cons (pv 0) pa_nil)) pe_int) (fun _ _ => rfl))), ?_⟩
    obtain ⟨c, hc, ha⟩ := at_signs n
    exact ⟨_, rfl, .inl ⟨_, rfl, _, _, rfl, rfl, (by show (0:Int) < 38; decide), _, _, c, rfl, rfl, by decide +kernel, ha, k c hc⟩⟩

/-! ### _law_truth -/
def spTruth : Sp := fun vs H Q _ => ∃ a d, vs = [.bl a, .bl d] ∧ Q (.bl (decide (a = d))) H
theorem sc_truth : FnScope ["_law_actual", "_law_due_here"] ["_law_actual", "_law_due_here"] (defScope d_law_truth.st) := ⟨rfl, rfl, rfl, by decide +kernel, rfl, by decide +kernel, by decide +kernel⟩
theorem r_truth (T : Tx K mg) : FnR PP w K mg base CX0 1 (gA K "_law_truth") spTruth := by
  refine fnr_of (d := d_law_truth) T 19 rfl sc_truth (fun _ _ _ _ _ _ us hl => match us, hl with | [_, _], _ => rfl) (fun vs H Q E h => ?_) (fun cdv A outer s H vs Q E hr h => ?_)
  · obtain ⟨_, _, rfl, _⟩ := h
    rfl
  · obtain ⟨a, d, rfl, k⟩ := h
    refine ⟨_, pss_one (ps_ret (pe_and (pe_callB call_isi (by rfl) (T.free "isinstance") (by decide +kernel) (pa_cons (pv 0) (pa_cons (pe_bltn (v := .ty "bool") (u := .type "bool") (by rfl) (T.free "bool") (by decide +kernel) rfl) pa_nil))) (pe_one (pe_cmpR op_eq (pv 0) (pv 1) (nomark _))))), ?_⟩
    refine ⟨_, rfl, _, _, _, _, true, rfl, .ty "bool", .base (.bl a), kit_ty (by decide +kernel), _, rfl, iteB rfl ⟨_, rfl, _, rfl, rfl, qb (Q := Q) ?_ k⟩⟩
    rw [decide_eq_decide]
    exact ⟨fun e => V.bl.inj e, fun e => by rw [e]⟩

/-! ### _law_text -/
def TxtOk (l : List Nat) : Prop := 1 ≤ l.length ∧ l.length ≤ 12 ∧ ∀ c ∈ l, c ∈ SIGNS
def spText : Sp := fun vs H Q _ => ∃ b, vs = [.ref b] ∧ ∃ cl, BagAt H b cl ∧ ∀ l H', TxtOk l → Kp b H H' → BagAt H' b cl → Q (.str (S l)) H'
theorem sc_text : FnScope ["_law_bag_here", "_law_pick", "_law_free", "_law_length", "_law_text_here", "_law_spot"] ["_law_bag_here"] (defScope d_law_text.st) := ⟨rfl, rfl, rfl, by decide +kernel, rfl, by decide +kernel, by decide +kernel⟩
theorem cut_to {l : List Nat} {j : Nat} (h : j ≤ l.length) : cutS (S l) none (some (j : Int)) = S (l.take j) := by
  unfold cutS
  apply TL.ext_tl
  show ((l.drop (HT.sIx (S l).length 0 none)).take (HT.sIx (S l).length (S l).length (some (j : Int)) - HT.sIx (S l).length 0 none)) = l.take j
  rw [HT.sIx_nat, HT.sIx_none, S_len, Nat.min_eq_left h]
  simp
theorem cut_from {l : List Nat} {j : Nat} (h : j ≤ l.length) : cutS (S l) (some (j : Int)) none = S (l.drop j) := by
  unfold cutS
  apply TL.ext_tl
  show ((l.drop (HT.sIx (S l).length 0 (some (j : Int)))).take (HT.sIx (S l).length (S l).length none - HT.sIx (S l).length 0 (some (j : Int)))) = l.drop j
  rw [HT.sIx_nat, HT.sIx_none, S_len, Nat.min_eq_left h]
  rw [List.take_of_length_le]
  rw [List.length_drop]
  exact Nat.le_refl _
theorem pick_len {p f : Int} (p0 : 0 ≤ p) (p1 : p < 4) (f0 : 0 ≤ f) (f1 : f < 12) : ∃ L : Nat, 1 ≤ L ∧ L ≤ 12 ∧ atI [V.int 2, V.int 1, V.int 12, V.int (1 + f)] p = some (.int (L : Int)) := by
  obtain ⟨j, rfl⟩ : ∃ j : Nat, p = (j : Int) := ⟨p.toNat, by omega⟩
  have hj : j < 4 := by omega
  match j, hj with
  | 0, _ => exact ⟨2, by decide, by decide, rfl⟩
  | 1, _ => exact ⟨1, by decide, by decide, rfl⟩
  | 2, _ => exact ⟨12, by decide, by decide, rfl⟩
  | 3, _ =>
    refine ⟨(1 + f).toNat, by omega, by omega, ?_⟩
    have e : (((1 + f).toNat : Nat) : Int) = 1 + f := by omega
    rw [e]
    rfl
theorem r_text (T : Tx K mg) : FnR PP w K mg base CX0 2 (gA K "_law_text") spText := by
  have F1 : FnR PP w K mg base CX0 1 (gA K "_law_take") spTake := r_take T
  have F2 : FnR PP w K mg base CX0 1 (gA K "_law_letter") spLetter := r_letter T
  refine fnr_of (d := d_law_text) T 20 rfl sc_text (fun _ _ _ _ _ _ us hl => match us, hl with | [_], _ => rfl) (fun vs H Q E h => ?_) (fun cdv A outer s H vs Q E hr h => ?_)
  · obtain ⟨_, rfl, _⟩ := h
    rfl
  · obtain ⟨b, rfl, cl, hb, k⟩ := h
    refine ⟨_, pss_cons (ps_set (i := 1) sc_text.nd rfl (Or.inl rfl) (pe_callR F1 hr rfl (T.glo "_law_take") (T.keep "_law_take") pass0 (pa_cons (pv 0) (pa_cons pe_int pa_nil))))
      (pss_cons (ps_set (i := 2) sc_text.nd rfl (Or.inl rfl) (pe_callR F1 hr rfl (T.glo "_law_take") (T.keep "_law_take") pass0 (pa_cons (pv 0) (pa_cons pe_int pa_nil))))
      (pss_cons (ps_set (i := 3) sc_text.nd rfl (Or.inl rfl) (pe_ix ix_list (pe_lst (pa_cons pe_int (pa_cons pe_int (pa_cons pe_int (pa_cons (pe_op op_add pe_int (pv 2)) pa_nil))))) (pv 1) (fun _ _ => rfl)))
      (pss_cons (ps_set (i := 4) sc_text.nd rfl (Or.inl rfl) (pe_op op_mulS (pe_callR F2 hr rfl (T.glo "_law_letter") (T.keep "_law_letter") pass0 (pa_cons (pe_callR F1 hr rfl (T.glo "_law_take") (T.keep "_law_take") pass0 (pa_cons (pv 0) (pa_cons pe_int pa_nil))) pa_nil)) (pv 3)))
      (pss_cons (ps_set (i := 5) sc_text.nd rfl (Or.inl rfl) (pe_callR F1 hr rfl (T.glo "_law_take") (T.keep "_law_take") pass0 (pa_cons (pv 0) (pa_cons (pv 3) pa_nil))))
      (pss_one (ps_ret (pe_op op_add_str (pe_op op_add_str (pe_slice sl_str (pv 4) po_none (po_some (pv 5))) (pe_callR F2 hr rfl (T.glo "_law_letter") (T.keep "_law_letter") pass0 (pa_cons (pe_callR F1 hr rfl (T.glo "_law_take") (T.keep "_law_take") pass0 (pa_cons (pv 0) (pa_cons pe_int pa_nil))) pa_nil)))
        (pe_slice sl_str (pv 4) (po_some (pe_op op_add (pv 5) pe_int)) po_none)))))))), ?_⟩
    refine ⟨_, rfl, b, 4, rfl, cl, hb, by decide, by decide, fun p H1 p0 p1 k1 b1 => ?_⟩
    refine ⟨_, rfl, b, 12, rfl, cl, b1, by decide, by decide, fun f H2 f0 f1 k2 b2 => ?_⟩
    obtain ⟨L, hL1, hL2, hL⟩ := pick_len p0 p1 f0 f1
    refine ⟨_, rfl, _, _, rfl, rfl, (by show 4 ≤ sizeLine; rw [sizeLine_eq]; decide), fun d nd => ⟨_, rfl, d, _, _, _, rfl, rfl, SqL.of upd_same, hL, ?_⟩⟩
    have b3 := b2.mono (same_upd (o := .lst [V.int 2, V.int 1, V.int 12, V.int (1 + f)]) nd)
    have k3 := (k1.trans k2).trans (Kp.of_same (b := b) (same_upd (o := .lst [V.int 2, V.int 1, V.int 12, V.int (1 + f)]) nd))
    refine ⟨_, rfl, b, 38, rfl, cl, b3, by decide, by decide, fun n H4 n0 n1 k4 b4 => ⟨n, rfl, fun c hc => ?_⟩⟩
    refine ⟨_, rfl, c, L, rfl, rfl, hL1, Nat.le_trans hL2 (by decide), ?_⟩
    refine ⟨_, rfl, _, rfl, b, (L : Int), rfl, cl, b4, by omega, by omega, fun sp H5 s0 s1 k5 b5 => ?_⟩
    obtain ⟨j, rfl⟩ : ∃ j : Nat, sp = (j : Int) := ⟨sp.toNat, by omega⟩
    have hj : j < L := by omega
    have el : (List.replicate L c).length = L := List.length_replicate
    have z : ∀ l : List Nat, l.length ≤ 100 → (S l).length ≤ sizeLine := fun l h => by
      rw [S_len]
      exact Nat.le_of_lt (small1000 (by omega))
    have e1 : cutS (S (List.replicate L c)) none (some (j : Int)) = S ((List.replicate L c).take j) := cut_to (by rw [el]; omega)
    have e2 : cutS (S (List.replicate L c)) (some ((j : Int) + 1)) none = S ((List.replicate L c).drop (j + 1)) := cut_from (j := j + 1) (by rw [el]; omega)
    refine ⟨_, rfl, _, rfl, _, rfl, _, rfl, z (List.replicate L c) (by rw [el]; omega), ?_⟩
    refine ⟨_, rfl, b, 38, rfl, cl, b5, by decide, by decide, fun m H6 m0 m1 k6 b6 => ⟨m, rfl, fun c' hc' => ?_⟩⟩
    have e3 : (⟨#[c']⟩ : Str) = S [c'] := rfl
    have e4 : (⟨(List.replicate L c).toArray⟩ : Str) = S (List.replicate L c) := rfl
    rw [e4, e1, e3]
    have lt : ((List.replicate L c).take j).length ≤ 12 := by rw [List.length_take]; omega
    have ld : ((List.replicate L c).drop (j + 1)).length ≤ 12 := by rw [List.length_drop]; omega
    refine ⟨_, _, rfl, rfl, ?_, ?_⟩
    · rw [S_len, S_len]
      exact Nat.le_of_lt (small1000 (by show _ + 1 ≤ 1000; omega))
    · rw [S_cat]
      refine ⟨_, rfl, _, rfl, _, _, rfl, rfl, _, rfl, _, rfl, z (List.replicate L c) (by rw [el]; omega), ?_⟩
      rw [e2]
      refine ⟨_, _, rfl, rfl, ?_, ?_⟩
      · rw [S_len, S_len, List.length_append]
        exact Nat.le_of_lt (small1000 (by show _ + 1 + _ ≤ 1000; omega))
      · rw [S_cat]
        refine k _ _ ⟨?_, ?_, ?_⟩ ((k3.trans k4).trans (k5.trans k6)) b6
        · simp; omega
        · simp; omega
        · intro d hd
          rcases List.mem_append.mp hd with hd | hd
          · rcases List.mem_append.mp hd with hd | hd
            · rw [List.eq_of_mem_replicate (List.mem_of_mem_take hd)]
              exact hc
            · rw [List.mem_singleton.mp hd]
              exact hc'
          · rw [List.eq_of_mem_replicate (List.mem_of_mem_drop hd)]
            exact hc
end
end K13

set_option Elab.async false
set_option linter.all false
set_option maxRecDepth 100000
set_option maxHeartbeats 4000000
/-! the law's world -/
namespace K13
open PySem PySem.Spec PyProof.Rows L2 SX

inductive WK | mode | behind | span | gap | clock | offset | version | epoch | there | reading | head | tail
  deriving DecidableEq
def WK.str : WK → Str
  | .mode => "mode" | .behind => "behind" | .span => "span" | .gap => "gap" | .clock => "clock" | .offset => "offset"
  | .version => "version" | .epoch => "epoch" | .there => "there" | .reading => "reading" | .head => "head" | .tail => "tail"
theorem WK.inj {j k : WK} (h : j.str = k.str) : j = k := by
  revert h
  cases j <;> cases k <;> decide +kernel
inductive Md | strong | weak | none
  deriving DecidableEq
def Md.str : Md → Str
  | .strong => "strong" | .weak => "weak" | .none => "none"
structure Wd where
  md : Md
  behind : Int
  span : Int
  gap : Int
  clock : Int
  offset : Int
  version : Nat
  epoch : Nat
  there : Bool
  reading : Int
  head : List Nat
  tail : List Nat
def Wd.get (W : Wd) : WK → V
  | .mode => .str W.md.str | .behind => .int W.behind | .span => .int W.span | .gap => .int W.gap | .clock => .int W.clock | .offset => .int W.offset
  | .version => .int (W.version : Int) | .epoch => .int (W.epoch : Int) | .there => .bl W.there | .reading => .int W.reading | .head => .str (S W.head) | .tail => .str (S W.tail)
/-- the world stands at d -/
def WAt (H : Hp) (d : Addr) (W : Wd) : Prop := ∃ kvs, H d = some (.dK kvs) ∧ kvs.length ≤ 40 ∧ ∀ k : WK, valV kvs (.inr k.str) = some (W.get k)
theorem WAt.kp {H H' : Hp} {b d : Addr} {W : Wd} (h : WAt H d W) (n : d ≠ b) (k : Kp b H H') : WAt H' d W := let ⟨kvs, e, f, g⟩ := h; ⟨kvs, k _ _ n e, f, g⟩
theorem WAt.mono {H H' : Hp} {d : Addr} {W : Wd} (s : Same H H') (h : WAt H d W) : WAt H' d W := let ⟨kvs, e, f, g⟩ := h; ⟨kvs, s _ _ e, f, g⟩
theorem WAt.g {H : Hp} {d : Addr} {W : Wd} (h : WAt H d W) (k : WK) : DGet H d (.str k.str) (some (W.get k)) := by
  obtain ⟨kvs, e, f, g⟩ := h
  rw [← g k]
  exact DGet.k (k := .inr k.str) e
theorem length_put_old (kvs : List (Key × V)) (k : Key) (v : V) (h : (valV kvs k).isSome = true) : (putK kvs k v).length = kvs.length := by
  unfold putK
  rw [if_pos (by rw [valV_any]; exact h), List.length_map]
theorem WAt.set {H : Hp} {d : Addr} {W : Wd} (h : WAt H d W) (k : WK) (v : V) (W' : Wd) (e : ∀ j, W'.get j = if j = k then v else W.get j) : ∃ H', DPut H d (.str k.str) v H' ∧ Kp d H H' ∧ WAt H' d W' := by
  obtain ⟨kvs, hd, hl, g⟩ := h
  refine ⟨_, DPut.k (k := .inr k.str) hd (small1000 (by omega)), kp_upd, _, upd_same, ?_, fun j => ?_⟩
  · rw [length_put_old _ _ _ (by rw [g k]; rfl)]
    exact hl
  · rw [valV_put, e j]
    by_cases hj : j = k
    · rw [if_pos (congrArg (fun x : WK => (Sum.inr x.str : Key)) hj), if_pos hj]
    · rw [if_neg (fun z => hj (WK.inj (Sum.inr.inj z))), if_neg hj]
      exact g j
theorem WAt.ne {H : Hp} {d b cl : Addr} {W : Wd} (h : WAt H d W) (hb : BagAt H b cl) : d ≠ b := by
  obtain ⟨kvs, hd, _, _⟩ := h
  obtain ⟨xs, e⟩ := hb.has
  exact ne_of hd e (by intro z; cases z)
theorem BagAt.kpw {H H' : Hp} {b cl d : Addr} {W : Wd} (hb : BagAt H b cl) (h : WAt H d W) (k : Kp d H H') : BagAt H' b cl := by
  obtain ⟨kvs, hd, _, _⟩ := h
  exact hb.kp k hd (by intro xs z; cases z)
/-- bounds that hold for ever -/
structure WOk (W : Wd) : Prop where
  b0 : 0 ≤ W.behind
  bs : W.behind ≤ W.span
  s1 : W.span ≤ 2000
  g0 : 0 ≤ W.gap
  g1 : W.gap ≤ 2003
  o0 : -W.behind ≤ W.offset
  o1 : W.offset ≤ W.span - W.behind
  hd : TxtOk W.head
  tl : TxtOk W.tail
  c0 : 0 ≤ W.clock
  v1 : 1 ≤ W.version
  e1 : 1 ≤ W.epoch
structure WInit (W : Wd) : Prop where
  ok : WOk W
  clock : W.clock = 0
  version : W.version = 1
  epoch : W.epoch = 1
  reading : W.reading = 0
def fW (W : Wd) : List (Key × V) := [(.inr "mode", .str W.md.str), (.inr "behind", .int W.behind), (.inr "span", .int W.span), (.inr "gap", .int W.gap), (.inr "clock", .int W.clock), (.inr "offset", .int W.offset),
  (.inr "version", .int (W.version : Int)), (.inr "epoch", .int (W.epoch : Int)), (.inr "there", .bl W.there), (.inr "reading", .int W.reading), (.inr "head", .str (S W.head)), (.inr "tail", .str (S W.tail))]
theorem fW_get (W : Wd) (k : WK) : valV (fW W) (.inr k.str) = some (W.get k) := by
  cases k <;> kernel_rfl
theorem WAt.of_f {H : Hp} {d : Addr} (W : Wd) (h : H d = some (.dK (fW W))) : WAt H d W := ⟨fW W, h, (by show 12 ≤ 40; decide), fW_get W⟩
end K13

set_option Elab.async false
set_option linter.all false
set_option maxRecDepth 100000
set_option maxHeartbeats 4000000
/-! the making of the world -/
namespace K13
open PySem PySem.Spec PyProof.Rows L2 SX
section
variable {w : World} {K : PySem.W.Frag} {mg : Str → Option Value} {base : Heap} {k : Nat} {N ps : List Str} {sp : Sp}

theorem at4 {α : Type} {a b c d : α} {p : Int} (P : α → Prop) (h0 : 0 ≤ p) (h1 : p < 4) (ha : P a) (hb : P b) (hc : P c) (hd : P d) : ∃ v, atI [a, b, c, d] p = some v ∧ P v := by
  obtain ⟨j, rfl⟩ : ∃ j : Nat, p = (j : Int) := ⟨p.toNat, by omega⟩
  have hj : j < 4 := by omega
  match j, hj with
  | 0, _ => exact ⟨a, rfl, ha⟩
  | 1, _ => exact ⟨b, rfl, hb⟩
  | 2, _ => exact ⟨c, rfl, hc⟩
  | 3, _ => exact ⟨d, rfl, hd⟩
theorem at3 {α : Type} {a b c : α} {p : Int} (P : α → Prop) (h0 : 0 ≤ p) (h1 : p < 3) (ha : P a) (hb : P b) (hc : P c) : ∃ v, atI [a, b, c] p = some v ∧ P v := by
  obtain ⟨j, rfl⟩ : ∃ j : Nat, p = (j : Int) := ⟨p.toNat, by omega⟩
  have hj : j < 3 := by omega
  match j, hj with
  | 0, _ => exact ⟨a, rfl, ha⟩
  | 1, _ => exact ⟨b, rfl, hb⟩
  | 2, _ => exact ⟨c, rfl, hc⟩
theorem lpK {kvs : List (Key × V)} {k : Key} {v : V} {n : Nat} (h : kvs.length ≤ n) : (putK kvs k v).length ≤ n + 1 := Nat.le_trans (length_putK kvs k v) (Nat.succ_le_succ h)
theorem unitsOk {k : Nat} {A : Around} (hr : Room k A) : A.units + 1 < cLine := by
  have := hr.un
  omega
theorem unitsOk64 {k : Nat} {A : Around} (hr : Room k A) : A.units + 64 < cLine := by
  have := hr.un
  omega
def spWorld : Sp := fun vs H Q _ => ∃ b, vs = [.ref b] ∧ ∃ cl, BagAt H b cl ∧ ∀ d W H', WInit W → Kp b H H' → BagAt H' b cl → H d = none → WAt H' d W → Q (.ref d) H'
theorem sc_world : FnScope ["_law_bag_here", "_law_limit", "_law_behind", "_law_ahead", "_law_span", "_law_gap", "_law_mode", "_law_world_here"] ["_law_bag_here"] (defScope d_law_world.st) := ⟨rfl, rfl, rfl, by decide +kernel, rfl, by decide +kernel, by decide +kernel⟩
theorem r_world (T : Tx K mg) : FnR PP w K mg base CX0 3 (gA K "_law_world") spWorld := by
  have F1 : FnR PP w K mg base CX0 1 (gA K "_law_take") spTake := r_take T
  have F2 : FnR PP w K mg base CX0 2 (gA K "_law_text") spText := r_text T
  refine fnr_of (d := d_law_world) T 21 rfl sc_world (fun _ _ _ _ _ _ us hl => match us, hl with | [_], _ => rfl) (fun vs H Q E h => ?_) (fun cdv A outer s H vs Q E hr h => ?_)
  · obtain ⟨_, rfl, _⟩ := h
    rfl
  · obtain ⟨b, rfl, cl, hb, k⟩ := h
    have hu := unitsOk hr
    have hr1 := hr.mono (show 1 ≤ 2 by decide)
    refine ⟨_, pss_cons (ps_set (i := 1) sc_world.nd rfl (Or.inl rfl) (pe_ix ix_list (pe_lst (pa_cons pe_int (pa_cons pe_int (pa_cons pe_int (pa_cons pe_int pa_nil))))) (pe_callR F1 hr1 rfl (T.glo "_law_take") (T.keep "_law_take") pass0 (pa_cons (pv 0) (pa_cons pe_int pa_nil))) (fun _ _ => rfl)))
      (pss_cons (ps_set (i := 2) sc_world.nd rfl (Or.inl rfl) (pe_callR F1 hr1 rfl (T.glo "_law_take") (T.keep "_law_take") pass0 (pa_cons (pv 0) (pa_cons (pv 1) pa_nil))))
      (pss_cons (ps_set (i := 3) sc_world.nd rfl (Or.inl rfl) (pe_callR F1 hr1 rfl (T.glo "_law_take") (T.keep "_law_take") pass0 (pa_cons (pv 0) (pa_cons (pv 1) pa_nil))))
      (pss_cons (ps_set (i := 4) sc_world.nd rfl (Or.inl rfl) (pe_op op_add (pv 2) (pv 3)))
      (pss_cons (ps_set (i := 5) sc_world.nd rfl (Or.inl rfl) (pe_op op_add (pe_op op_add (pv 4) pe_int) (pe_callR F1 hr1 rfl (T.glo "_law_take") (T.keep "_law_take") pass0 (pa_cons (pv 0) (pa_cons pe_int pa_nil)))))
      (pss_cons (ps_if (pt_cmpR op_eq (pe_callR F1 hr1 rfl (T.glo "_law_take") (T.keep "_law_take") pass0 (pa_cons (pv 0) (pa_cons pe_int pa_nil))) pe_int (nomark _))
        (pss_one (ps_set (i := 5) sc_world.nd rfl (Or.inl rfl) (pe_callR F1 hr1 rfl (T.glo "_law_take") (T.keep "_law_take") pass0 (pa_cons (pv 0) (pa_cons (pe_op op_add (pv 4) pe_int) pa_nil))))) pss_nil)
      (pss_cons (ps_set (i := 6) sc_world.nd rfl (Or.inl rfl) (pe_ix ix_list (pe_lst (pa_cons pe_str (pa_cons pe_str (pa_cons pe_str pa_nil)))) (pe_callR F1 hr1 rfl (T.glo "_law_take") (T.keep "_law_take") pass0 (pa_cons (pv 0) (pa_cons pe_int pa_nil))) (fun _ _ => rfl)))
      (pss_cons (ps_set (i := 7) sc_world.nd rfl (Or.inl rfl) (pe_disp (pps_cons pe_str (pv 6) (pps_cons pe_str (pv 2) (pps_cons pe_str (pv 4) (pps_cons pe_str (pv 5) (pps_cons pe_str pe_int (pps_cons pe_str pe_int pps_nil)))))) (by rfl) (by rfl) (by intro z; cases z) (by decide)))
      (pss_cons (ps_dput hu (pv 7) pe_str pe_int rfl) (pss_cons (ps_dput hu (pv 7) pe_str pe_int rfl) (pss_cons (ps_dput hu (pv 7) pe_str pe_bl rfl) (pss_cons (ps_dput hu (pv 7) pe_str pe_int rfl)
      (pss_cons (ps_dput hu (pv 7) pe_str (pe_callR F2 hr rfl (T.glo "_law_text") (T.keep "_law_text") pass0 (pa_cons (pv 0) pa_nil)) rfl)
      (pss_cons (ps_dput hu (pv 7) pe_str (pe_callR F2 hr rfl (T.glo "_law_text") (T.keep "_law_text") pass0 (pa_cons (pv 0) pa_nil)) rfl)
      (pss_one (ps_ret (pv 7)))))))))))))))), ?_⟩
    obtain ⟨xb, hxb⟩ := hb.has
    refine ⟨(by show 4 ≤ sizeLine; rw [sizeLine_eq]; decide), fun d1 n1 => ?_⟩
    have nb1 : d1 ≠ b := (ne_of_none hxb n1).symm
    refine ⟨_, rfl, b, 4, rfl, cl, hb.mono (same_upd n1), by decide, by decide, fun p H1 p0 p1 k1 b1 => ?_⟩
    obtain ⟨lv, e1, lim, elim, l0, l1⟩ := at4 (p := p) (fun v => ∃ i : Int, v = V.int i ∧ 1 ≤ i ∧ i ≤ 1001) p0 p1 ⟨4, rfl, by decide, by decide⟩ ⟨4, rfl, by decide, by decide⟩ ⟨4, rfl, by decide, by decide⟩ ⟨1001, rfl, by decide, by decide⟩
    subst elim
    have kk1 : Kp b H H1 := (Kp.of_same (same_upd n1)).trans k1
    refine ⟨d1, _, _, _, rfl, rfl, SqL.of (k1 _ _ nb1 upd_same), e1, ?_⟩
    refine ⟨_, rfl, _, rfl, b, lim, rfl, cl, b1, by omega, by omega, fun be H2 be0 be1 k2 b2 => ?_⟩
    refine ⟨_, rfl, _, rfl, b, lim, rfl, cl, b2, by omega, by omega, fun ah H3 ah0 ah1 k3 b3 => ?_⟩
    have kk3 := kk1.trans (k2.trans k3)
    refine ⟨_, rfl, _, rfl, _, _, rfl, rfl, ?_⟩
    refine ⟨_, rfl, _, _, rfl, rfl, _, rfl, b, 3, rfl, cl, b3, by decide, by decide, fun g H4 g0 g1 k4 b4 => ⟨_, _, rfl, rfl, ?_⟩⟩
    refine ⟨_, rfl, b, 4, rfl, cl, b4, by decide, by decide, fun q H5 q0 q1 k5 b5 => ⟨rfl, _, rfl, ?_⟩⟩
    have kk5 := kk3.trans (k4.trans k5)
    refine iteAny ?_ ?_
    · refine ⟨_, rfl, _, rfl, _, _, rfl, rfl, b, be + ah + 1, rfl, cl, b5, by omega, by omega, fun gap H6 gp0 gp1' k6 b6 => ?_⟩
      have gp1 : gap ≤ 2003 := by omega
      have kk6 := kk5.trans k6
      refine ⟨(by show 3 ≤ sizeLine; rw [sizeLine_eq]; decide), fun d2 n2 => ?_⟩
      obtain ⟨xb6, hxb6⟩ := b6.has
      have nb2 : d2 ≠ b := (ne_of_none hxb6 n2).symm
      refine ⟨_, rfl, b, 3, rfl, cl, b6.mono (same_upd n2), by decide, by decide, fun m H7 m0 m1 k7 b7 => ?_⟩
      obtain ⟨mv, e2, md, emd⟩ := at3 (p := m) (fun v => ∃ md : Md, v = V.str md.str) m0 m1 ⟨.strong, rfl⟩ ⟨.weak, rfl⟩ ⟨.none, rfl⟩
      subst emd
      refine ⟨d2, _, _, _, rfl, rfl, SqL.of (k7 _ _ nb2 upd_same), e2, ?_⟩
      have kk7 := kk6.trans ((Kp.of_same (same_upd n2)).trans k7)
      intro d n
      obtain ⟨xb7, hxb7⟩ := b7.has
      have ndb : d ≠ b := (ne_of_none hxb7 n).symm
      have bgu : ∀ (H : Hp) (kvs kvs' : List (Key × V)), H d = some (.dK kvs) → BagAt H b cl → BagAt (upd H d (.dK kvs')) b cl := fun H kvs kvs' h hb => hb.kp kp_upd h (by intro xs z; cases z)
      have bgp : ∀ (H : Hp) (kvs : List (Key × V)) (kk : Key) (v : V), H d = some (.dK kvs) → BagAt H b cl → BagAt (upd H d (.dK (putK kvs kk v))) b cl := fun H kvs kk v h hb => bgu H kvs _ h hb
      refine ⟨_, rfl, _, rfl, _, rfl, _, rfl, upd_same, [(.inr "mode", .str md.str), (.inr "behind", .int be), (.inr "span", .int (be + ah)), (.inr "gap", .int gap), (.inr "clock", .int 0), (.inr "offset", .int 0)], rfl, (by show 6 ≤ 15; decide), ?_⟩
      have h6 : (mergeK [] [((.inr "mode" : Key), V.str md.str), (.inr "behind", .int be), (.inr "span", .int (be + ah)), (.inr "gap", .int gap), (.inr "clock", .int 0), (.inr "offset", .int 0)]).length ≤ 10 := Nat.le_trans (Nat.le_of_eq (show _ = 6 by kernel_rfl)) (by decide)
      have bq := bgu _ _ (mergeK [] [((.inr "mode" : Key), V.str md.str), (.inr "behind", .int be), (.inr "span", .int (be + ah)), (.inr "gap", .int gap), (.inr "clock", .int 0), (.inr "offset", .int 0)]) upd_same (b7.mono (same_upd (o := .dK []) n))
      refine ⟨_, rfl, d, _, rfl, DPut.k (k := .inr "version") upd_same (small1000 (by omega)), ?_⟩
      have h7 := lpK (k := (.inr "version" : Key)) (v := V.int 1) h6
      have bq := bgp _ _ (.inr "version") (V.int 1) upd_same bq
      refine ⟨_, rfl, d, _, rfl, DPut.k (k := .inr "epoch") upd_same (small1000 (by omega)), ?_⟩
      have h8 := lpK (k := (.inr "epoch" : Key)) (v := V.int 1) h7
      have bq := bgp _ _ (.inr "epoch") (V.int 1) upd_same bq
      refine ⟨_, rfl, d, _, rfl, DPut.k (k := .inr "there") upd_same (small1000 (by omega)), ?_⟩
      have h9 := lpK (k := (.inr "there" : Key)) (v := V.bl true) h8
      have bq := bgp _ _ (.inr "there") (V.bl true) upd_same bq
      refine ⟨_, rfl, d, _, rfl, DPut.k (k := .inr "reading") upd_same (small1000 (by omega)), ?_⟩
      have h10 := lpK (k := (.inr "reading" : Key)) (v := V.int 0) h9
      have bq := bgp _ _ (.inr "reading") (V.int 0) upd_same bq
      refine ⟨_, rfl, b, rfl, cl, bq, fun t1 H8 ok1 k8 b8 => ?_⟩
      refine ⟨_, rfl, d, _, rfl, DPut.k (k := .inr "head") (k8 _ _ ndb upd_same) (small1000 (by omega)), ?_⟩
      have h11 := lpK (k := (.inr "head" : Key)) (v := V.str (S t1)) h10
      have bq := bgp _ _ (.inr "head") (V.str (S t1)) (k8 _ _ ndb upd_same) b8
      refine ⟨_, rfl, b, rfl, cl, bq, fun t2 H9 ok2 k9 b9 => ?_⟩
      refine ⟨_, rfl, d, _, rfl, DPut.k (k := .inr "tail") (k9 _ _ ndb upd_same) (small1000 (by omega)), ?_⟩
      have bq := bgp _ _ (.inr "tail") (V.str (S t2)) (k9 _ _ ndb upd_same) b9
      refine ⟨_, rfl, k d ⟨md, be, be + ah, gap, 0, 0, 1, 1, true, 0, t1, t2⟩ _ ⟨⟨be0, by show be ≤ be + ah; omega, by show be + ah ≤ 2000; omega, gp0, gp1, by show -be ≤ 0; omega, by show 0 ≤ be + ah - be; omega, ok1, ok2, Int.le_refl 0, Nat.le_refl 1, Nat.le_refl 1⟩, rfl, rfl, rfl, rfl⟩ (fun c o ncb e => ?_) bq (kk7.free ndb n) ?_⟩
      · have hcd : c ≠ d := ne_of_none (kk7 c o ncb e) n
        rw [upd_ne hcd]
        refine k9 _ _ ncb ?_
        rw [upd_ne hcd]
        refine k8 _ _ ncb ?_
        rw [upd_ne hcd, upd_ne hcd, upd_ne hcd, upd_ne hcd, upd_ne hcd, upd_ne hcd]
        exact kk7 c o ncb e
      · refine WAt.of_f _ ?_
        rw [upd_same]
        refine congrArg (fun z => some (HO.dK z)) ?_
        kernel_rfl
    · have gp0 : 0 ≤ (be + ah + 1 + g) := by omega
      have gp1 : (be + ah + 1 + g) ≤ 2003 := by omega
      have kk6 := kk5
      have b6 := b5
      refine ⟨(by show 3 ≤ sizeLine; rw [sizeLine_eq]; decide), fun d2 n2 => ?_⟩
      obtain ⟨xb6, hxb6⟩ := b6.has
      have nb2 : d2 ≠ b := (ne_of_none hxb6 n2).symm
      refine ⟨_, rfl, b, 3, rfl, cl, b6.mono (same_upd n2), by decide, by decide, fun m H7 m0 m1 k7 b7 => ?_⟩
      obtain ⟨mv, e2, md, emd⟩ := at3 (p := m) (fun v => ∃ md : Md, v = V.str md.str) m0 m1 ⟨.strong, rfl⟩ ⟨.weak, rfl⟩ ⟨.none, rfl⟩
      subst emd
      refine ⟨d2, _, _, _, rfl, rfl, SqL.of (k7 _ _ nb2 upd_same), e2, ?_⟩
      have kk7 := kk6.trans ((Kp.of_same (same_upd n2)).trans k7)
      intro d n
      obtain ⟨xb7, hxb7⟩ := b7.has
      have ndb : d ≠ b := (ne_of_none hxb7 n).symm
      have bgu : ∀ (H : Hp) (kvs kvs' : List (Key × V)), H d = some (.dK kvs) → BagAt H b cl → BagAt (upd H d (.dK kvs')) b cl := fun H kvs kvs' h hb => hb.kp kp_upd h (by intro xs z; cases z)
      have bgp : ∀ (H : Hp) (kvs : List (Key × V)) (kk : Key) (v : V), H d = some (.dK kvs) → BagAt H b cl → BagAt (upd H d (.dK (putK kvs kk v))) b cl := fun H kvs kk v h hb => bgu H kvs _ h hb
      refine ⟨_, rfl, _, rfl, _, rfl, _, rfl, upd_same, [(.inr "mode", .str md.str), (.inr "behind", .int be), (.inr "span", .int (be + ah)), (.inr "gap", .int (be + ah + 1 + g)), (.inr "clock", .int 0), (.inr "offset", .int 0)], rfl, (by show 6 ≤ 15; decide), ?_⟩
      have h6 : (mergeK [] [((.inr "mode" : Key), V.str md.str), (.inr "behind", .int be), (.inr "span", .int (be + ah)), (.inr "gap", .int (be + ah + 1 + g)), (.inr "clock", .int 0), (.inr "offset", .int 0)]).length ≤ 10 := Nat.le_trans (Nat.le_of_eq (show _ = 6 by kernel_rfl)) (by decide)
      have bq := bgu _ _ (mergeK [] [((.inr "mode" : Key), V.str md.str), (.inr "behind", .int be), (.inr "span", .int (be + ah)), (.inr "gap", .int (be + ah + 1 + g)), (.inr "clock", .int 0), (.inr "offset", .int 0)]) upd_same (b7.mono (same_upd (o := .dK []) n))
      refine ⟨_, rfl, d, _, rfl, DPut.k (k := .inr "version") upd_same (small1000 (by omega)), ?_⟩
      have h7 := lpK (k := (.inr "version" : Key)) (v := V.int 1) h6
      have bq := bgp _ _ (.inr "version") (V.int 1) upd_same bq
      refine ⟨_, rfl, d, _, rfl, DPut.k (k := .inr "epoch") upd_same (small1000 (by omega)), ?_⟩
      have h8 := lpK (k := (.inr "epoch" : Key)) (v := V.int 1) h7
      have bq := bgp _ _ (.inr "epoch") (V.int 1) upd_same bq
      refine ⟨_, rfl, d, _, rfl, DPut.k (k := .inr "there") upd_same (small1000 (by omega)), ?_⟩
      have h9 := lpK (k := (.inr "there" : Key)) (v := V.bl true) h8
      have bq := bgp _ _ (.inr "there") (V.bl true) upd_same bq
      refine ⟨_, rfl, d, _, rfl, DPut.k (k := .inr "reading") upd_same (small1000 (by omega)), ?_⟩
      have h10 := lpK (k := (.inr "reading" : Key)) (v := V.int 0) h9
      have bq := bgp _ _ (.inr "reading") (V.int 0) upd_same bq
      refine ⟨_, rfl, b, rfl, cl, bq, fun t1 H8 ok1 k8 b8 => ?_⟩
      refine ⟨_, rfl, d, _, rfl, DPut.k (k := .inr "head") (k8 _ _ ndb upd_same) (small1000 (by omega)), ?_⟩
      have h11 := lpK (k := (.inr "head" : Key)) (v := V.str (S t1)) h10
      have bq := bgp _ _ (.inr "head") (V.str (S t1)) (k8 _ _ ndb upd_same) b8
      refine ⟨_, rfl, b, rfl, cl, bq, fun t2 H9 ok2 k9 b9 => ?_⟩
      refine ⟨_, rfl, d, _, rfl, DPut.k (k := .inr "tail") (k9 _ _ ndb upd_same) (small1000 (by omega)), ?_⟩
      have bq := bgp _ _ (.inr "tail") (V.str (S t2)) (k9 _ _ ndb upd_same) b9
      refine ⟨_, rfl, k d ⟨md, be, be + ah, be + ah + 1 + g, 0, 0, 1, 1, true, 0, t1, t2⟩ _ ⟨⟨be0, by show be ≤ be + ah; omega, by show be + ah ≤ 2000; omega, gp0, gp1, by show -be ≤ 0; omega, by show 0 ≤ be + ah - be; omega, ok1, ok2, Int.le_refl 0, Nat.le_refl 1, Nat.le_refl 1⟩, rfl, rfl, rfl, rfl⟩ (fun c o ncb e => ?_) bq (kk7.free ndb n) ?_⟩
      · have hcd : c ≠ d := ne_of_none (kk7 c o ncb e) n
        rw [upd_ne hcd]
        refine k9 _ _ ncb ?_
        rw [upd_ne hcd]
        refine k8 _ _ ncb ?_
        rw [upd_ne hcd, upd_ne hcd, upd_ne hcd, upd_ne hcd, upd_ne hcd, upd_ne hcd]
        exact kk7 c o ncb e
      · refine WAt.of_f _ ?_
        rw [upd_same]
        refine congrArg (fun z => some (HO.dK z)) ?_
        kernel_rfl
end
end K13

set_option Elab.async false
set_option linter.all false
set_option maxRecDepth 100000
set_option maxHeartbeats 4000000
/-! the world asked and grown; its tag -/
namespace K13
open PySem PySem.Spec PyProof.Rows L2 SX
section
variable {w : World} {K : PySem.W.Frag} {mg : Str → Option Value} {base : Heap} {k : Nat} {N ps : List Str} {sp : Sp}

/-! ### shown, settled -/
def Wd.shown (W : Wd) : Int := W.clock + W.offset
def Wd.isSet (W : Wd) : Bool := decide (W.gap ≤ W.shown - W.reading)
def spShown : Sp := fun vs H Q _ => ∃ d W, vs = [.ref d] ∧ WAt H d W ∧ Q (.int W.shown) H
theorem sc_shown : FnScope ["_law_world_here"] ["_law_world_here"] (defScope d_law_shown.st) := ⟨rfl, rfl, rfl, by decide +kernel, rfl, by decide +kernel, by decide +kernel⟩
theorem r_shown (T : Tx K mg) : FnR PP w K mg base CX0 1 (gA K "_law_shown") spShown := by
  refine fnr_of (d := d_law_shown) T 22 rfl sc_shown (fun _ _ _ _ _ _ us hl => match us, hl with | [_], _ => rfl) (fun vs H Q E h => ?_) (fun cdv A outer s H vs Q E hr h => ?_)
  · obtain ⟨_, _, rfl, _⟩ := h
    rfl
  · obtain ⟨d, W, rfl, hW, k⟩ := h
    have hu := unitsOk hr
    refine ⟨_, pss_one (ps_ret (pe_op op_add (pe_dget hu (pv 0) pe_str (fun _ _ => rfl)) (pe_dget hu (pv 0) pe_str (fun _ _ => rfl)))), ?_⟩
    exact ⟨_, rfl, d, _, rfl, hW.g .clock, _, rfl, d, _, rfl, hW.g .offset, _, _, rfl, rfl, k⟩
def spIsSet : Sp := fun vs H Q _ => ∃ d W, vs = [.ref d] ∧ WAt H d W ∧ Q (.bl W.isSet) H
theorem sc_isset : FnScope ["_law_world_here"] ["_law_world_here"] (defScope d_law_is_settled.st) := ⟨rfl, rfl, rfl, by decide +kernel, rfl, by decide +kernel, by decide +kernel⟩
theorem r_isset (T : Tx K mg) : FnR PP w K mg base CX0 2 (gA K "_law_is_settled") spIsSet := by
  have F1 : FnR PP w K mg base CX0 1 (gA K "_law_shown") spShown := r_shown T
  refine fnr_of (d := d_law_is_settled) T 23 rfl sc_isset (fun _ _ _ _ _ _ us hl => match us, hl with | [_], _ => rfl) (fun vs H Q E h => ?_) (fun cdv A outer s H vs Q E hr h => ?_)
  · obtain ⟨_, _, rfl, _⟩ := h
    rfl
  · obtain ⟨d, W, rfl, hW, k⟩ := h
    have hu := unitsOk hr
    refine ⟨_, pss_one (ps_ret (pe_cmpR op_ge (pe_op op_sub (pe_callR F1 hr rfl (T.glo "_law_shown") (T.keep "_law_shown") pass0 (pa_cons (pv 0) pa_nil)) (pe_dget hu (pv 0) pe_str (fun _ _ => rfl))) (pe_dget hu (pv 0) pe_str (fun _ _ => rfl)) (nomark _))), ?_⟩
    exact ⟨_, rfl, d, W, rfl, hW, _, rfl, d, _, rfl, hW.g .reading, _, _, rfl, rfl, _, rfl, d, _, rfl, hW.g .gap, _, _, rfl, rfl, k⟩

/-! ### grow -/
def Wd.grow (W : Wd) (e : Nat) : Wd := { W with version := W.version + 1, epoch := W.epoch + e, reading := W.shown, there := true }
def spGrow : Sp := fun vs H Q _ => ∃ d W e, vs = [.ref d, .int ((e : Nat) : Int)] ∧ WAt H d W ∧ ∀ H', Kp d H H' → WAt H' d (W.grow e) → Q .non H'
theorem sc_grow : FnScope ["_law_world_here", "_law_epoch"] ["_law_world_here", "_law_epoch"] (defScope d_law_grow.st) := ⟨rfl, rfl, rfl, by decide +kernel, rfl, by decide +kernel, by decide +kernel⟩
theorem r_grow (T : Tx K mg) : FnR PP w K mg base CX0 2 (gA K "_law_grow") spGrow := by
  have F1 : FnR PP w K mg base CX0 1 (gA K "_law_shown") spShown := r_shown T
  refine fnr_of (d := d_law_grow) T 24 rfl sc_grow (fun _ _ _ _ _ _ us hl => match us, hl with | [_, _], _ => rfl) (fun vs H Q E h => ?_) (fun cdv A outer s H vs Q E hr h => ?_)
  · obtain ⟨_, _, _, rfl, _⟩ := h
    rfl
  · obtain ⟨d, W, e, rfl, hW, k⟩ := h
    have hu := unitsOk hr
    refine ⟨_, pss_cons (ps_dput hu (pv 0) pe_str (pe_op op_add (pe_dget hu (pv 0) pe_str (fun _ _ => rfl)) pe_int) rfl)
      (pss_cons (ps_dput hu (pv 0) pe_str (pe_op op_add (pe_dget hu (pv 0) pe_str (fun _ _ => rfl)) (pv 1)) rfl)
      (pss_cons (ps_dput hu (pv 0) pe_str (pe_callR F1 hr rfl (T.glo "_law_shown") (T.keep "_law_shown") pass0 (pa_cons (pv 0) pa_nil)) rfl)
      (pss_one (ps_dput hu (pv 0) pe_str pe_bl rfl)))), ?_⟩
    obtain ⟨H1, p1, k1, w1⟩ := hW.set .version (.int ((W.version : Int) + 1)) { W with version := W.version + 1 } (by intro j; cases j <;> rfl)
    refine ⟨_, rfl, d, _, rfl, hW.g .version, _, _, rfl, rfl, _, rfl, d, H1, rfl, p1, ?_⟩
    obtain ⟨H2, p2, k2, w2⟩ := w1.set .epoch (.int ((W.epoch : Int) + (e : Int))) { W with version := W.version + 1, epoch := W.epoch + e } (by intro j; cases j <;> rfl)
    refine ⟨_, rfl, d, _, rfl, w1.g .epoch, _, rfl, _, _, rfl, rfl, _, rfl, d, H2, rfl, p2, ?_⟩
    obtain ⟨H3, p3, k3, w3⟩ := w2.set .reading (.int W.shown) { W with version := W.version + 1, epoch := W.epoch + e, reading := W.shown } (by intro j; cases j <;> rfl)
    refine ⟨_, rfl, d, _, rfl, w2, _, rfl, d, H3, rfl, p3, ?_⟩
    obtain ⟨H4, p4, k4, w4⟩ := w3.set .there (.bl true) { W with version := W.version + 1, epoch := W.epoch + e, reading := W.shown, there := true } (by intro j; cases j <;> rfl)
    exact ⟨_, rfl, d, H4, rfl, p4, k H4 (k1.trans (k2.trans (k3.trans k4))) w4⟩

/-! ### the tag -/
def Wd.tag (W : Wd) : Mk0 := match W.md with
  | .strong => some (W.head ++ TL.numL W.version ++ W.tail, false)
  | .weak => some (W.head ++ TL.numL W.epoch ++ W.tail, true)
  | .none => none
def WSmall (W : Wd) : Prop := W.version < 1000 ∧ W.epoch < 1000
theorem dig_mark {c : Nat} (h : 48 ≤ c ∧ c ≤ 57) : c ∈ ("abcdefghijklmnopqrstuvwxyz0123456789.-" : Str).cps.toList := by
  have e : ([48, 49, 50, 51, 52, 53, 54, 55, 56, 57] : List Nat).all (fun c => decide (c ∈ ("abcdefghijklmnopqrstuvwxyz0123456789.-" : Str).cps.toList)) = true := by decide +kernel
  refine of_decide_eq_true (List.all_eq_true.mp e c ?_)
  simp
  omega
theorem mark_text {h t : List Nat} {n : Nat} (h1 : TxtOk h) (h2 : TxtOk t) (hn : n < 1000) : MarkOk (h ++ TL.numL n ++ t) := by
  have l1 := numL_pos n
  have l2 := numL_len6 (show n < 1000000 by omega)
  obtain ⟨a1, a2, a3⟩ := h1
  obtain ⟨b1, b2, b3⟩ := h2
  refine ⟨?_, ?_, fun c hc => ?_⟩
  · rw [List.length_append, List.length_append]
    omega
  · rw [List.length_append, List.length_append]
    omega
  · rcases List.mem_append.mp hc with hc | hc
    · rcases List.mem_append.mp hc with hc | hc
      · exact signs_mark (a3 c hc)
      · exact dig_mark (numL_dig hc)
    · exact signs_mark (b3 c hc)
theorem tag_ok {W : Wd} (ok : WOk W) (sm : WSmall W) : MkOk W.tag := by
  intro p hp
  unfold Wd.tag at hp
  cases hm : W.md with
  | strong =>
    rw [hm] at hp
    rw [← Option.some.inj hp]
    exact mark_text ok.hd ok.tl sm.1
  | weak =>
    rw [hm] at hp
    rw [← Option.some.inj hp]
    exact mark_text ok.hd ok.tl sm.2
  | none =>
    rw [hm] at hp
    cases hp
def spTag (K : PySem.W.Frag) : Sp := fun vs H Q _ => ∃ d W, vs = [.ref d] ∧ WAt H d W ∧ WOk W ∧ WSmall W ∧ ∀ mv H', Same H H' → MvAt K (New H H') mv W.tag → Q mv H'
theorem sc_tag : FnScope ["_law_world_here"] ["_law_world_here"] (defScope d_law_tag.st) := ⟨rfl, rfl, rfl, by decide +kernel, rfl, by decide +kernel, by decide +kernel⟩
theorem intL_nat (n : Nat) : intL (n : Int) = TL.numL n := by
  unfold intL
  rw [if_neg (by omega)]
  rfl
theorem log_small {n : Nat} (h : n < 1000) : ((n : Int).natAbs).log2 < 1920 := by
  have e : (n : Int).natAbs = n := rfl
  rw [e]
  by_cases h0 : n = 0
  · rw [h0]
    decide
  · have : n.log2 < 10 := (Nat.log2_lt h0).mpr (by omega)
    omega
theorem r_tag (T : Tx K mg) : FnR PP w K mg base CX0 4 (gA K "_law_tag") (spTag K) := by
  have F1 : FnR PP w K mg base CX0 2 (mA K "Mark" "__init__") (fun vs H Q E => spMInit K (vs ++ [.bl false]) H Q E) := r_Mark_init1 T
  have F2 : FnR PP w K mg base CX0 2 (mA K "Mark" "__init__") (spMInit K) := r_Mark_init T
  refine fnr_of (d := d_law_tag) T 26 rfl sc_tag (fun _ _ _ _ _ _ us hl => match us, hl with | [_], _ => rfl) (fun vs H Q E h => ?_) (fun cdv A outer s H vs Q E hr h => ?_)
  · obtain ⟨_, _, rfl, _⟩ := h
    rfl
  · obtain ⟨d, W, rfl, hW, ok, sm, k⟩ := h
    have hu := unitsOk hr
    refine ⟨_, pss_cons (ps_if (pt_cmpR op_eq (pe_dget hu (pv 0) pe_str (fun _ _ => rfl)) pe_str (nomark _)) (pss_one (ps_ret (StX.pe_makeR (T.mkr "Mark") F1 hr rfl (T.glo "Mark") pass0 (pa_cons (pe_op op_add_str (pe_op op_add_str (pe_dget hu (pv 0) pe_str (fun _ _ => rfl)) (pe_callTy call_str_int (by rfl) (T.free "str") (by decide +kernel) (pa_cons (pe_dget hu (pv 0) pe_str (fun _ _ => rfl)) pa_nil))) (pe_dget hu (pv 0) pe_str (fun _ _ => rfl))) pa_nil)))) pss_nil)
      (pss_cons (ps_if (pt_cmpR op_eq (pe_dget hu (pv 0) pe_str (fun _ _ => rfl)) pe_str (nomark _)) (pss_one (ps_ret (StX.pe_makeR (T.mkr "Mark") F2 hr rfl (T.glo "Mark") pass0 (pa_cons (pe_op op_add_str (pe_op op_add_str (pe_dget hu (pv 0) pe_str (fun _ _ => rfl)) (pe_callTy call_str_int (by rfl) (T.free "str") (by decide +kernel) (pa_cons (pe_dget hu (pv 0) pe_str (fun _ _ => rfl)) pa_nil))) (pe_dget hu (pv 0) pe_str (fun _ _ => rfl))) (pa_cons pe_bl pa_nil))))) pss_nil)
      (pss_one (ps_ret pe_non))), ?_⟩
    obtain ⟨a1, a2, a3⟩ := ok.hd
    obtain ⟨b1, b2, b3⟩ := ok.tl
    have zl : ∀ n m : Nat, n ≤ 50 → m ≤ 50 → n + m ≤ sizeLine := fun n m h1 h2 => Nat.le_of_lt (small1000 (by omega))
    refine ⟨_, rfl, d, _, rfl, hW.g .mode, rfl, _, rfl, ?_⟩
    cases hm : W.md with
    | strong =>
      have hsm := sm.1
      have l2 := numL_len6 (show W.version < 1000000 by omega)
      have mo := mark_text ok.hd ok.tl hsm
      refine iteB (by show decide (V.str W.md.str = V.str "strong") = true; rw [hm]; decide +kernel) ?_
      refine ⟨_, rfl, d, _, rfl, hW.g .head, _, rfl, d, _, rfl, hW.g .version, _, rfl, log_small hsm, _, _, rfl, rfl, ?_, _, rfl, d, _, rfl, hW.g .tail, _, _, rfl, rfl, ?_, ?_⟩
      · rw [int_S, intL_nat, S_len, S_len]
        exact zl _ _ (by omega) (by omega)
      · rw [int_S, intL_nat, S_cat, S_len, S_len, List.length_append]
        exact zl _ _ (by omega) (by omega)
      · rw [int_S, intL_nat, S_cat, S_cat]
        refine fun x dx nx nd ne => ⟨x, dx, _, false, rfl, upd_same, mo, fun H3 k3 h3 => ⟨rfl, k (.ref x) H3 (made_same nx nd k3) ?_⟩⟩
        unfold Wd.tag
        rw [hm]
        exact ⟨x, rfl, dx, new_at nx h3⟩
    | weak =>
      have hsm := sm.2
      have l2 := numL_len6 (show W.epoch < 1000000 by omega)
      have mo := mark_text ok.hd ok.tl hsm
      refine iteN (by show decide (V.str W.md.str = V.str "strong") = false; rw [hm]; decide +kernel) ?_
      refine ⟨_, rfl, d, _, rfl, hW.g .mode, rfl, _, rfl, ?_⟩
      refine iteB (by show decide (V.str W.md.str = V.str "weak") = true; rw [hm]; decide +kernel) ?_
      refine ⟨_, rfl, d, _, rfl, hW.g .head, _, rfl, d, _, rfl, hW.g .epoch, _, rfl, log_small hsm, _, _, rfl, rfl, ?_, _, rfl, d, _, rfl, hW.g .tail, _, _, rfl, rfl, ?_, ?_⟩
      · rw [int_S, intL_nat, S_len, S_len]
        exact zl _ _ (by omega) (by omega)
      · rw [int_S, intL_nat, S_cat, S_len, S_len, List.length_append]
        exact zl _ _ (by omega) (by omega)
      · rw [int_S, intL_nat, S_cat, S_cat]
        refine fun x dx nx nd ne => ⟨x, dx, _, true, rfl, upd_same, mo, fun H3 k3 h3 => ⟨rfl, k (.ref x) H3 (made_same nx nd k3) ?_⟩⟩
        unfold Wd.tag
        rw [hm]
        exact ⟨x, rfl, dx, new_at nx h3⟩
    | none =>
      refine iteN (by show decide (V.str W.md.str = V.str "strong") = false; rw [hm]; decide +kernel) ?_
      refine ⟨_, rfl, d, _, rfl, hW.g .mode, rfl, _, rfl, ?_⟩
      refine iteN (by show decide (V.str W.md.str = V.str "weak") = false; rw [hm]; decide +kernel) ?_
      refine k .non H (Same.refl _) ?_
      unfold Wd.tag
      rw [hm]
      rfl
end
end K13

set_option Elab.async false
set_option linter.all false
set_option maxRecDepth 100000
set_option maxHeartbeats 4000000
/-! a step of the world -/
namespace K13
open PySem PySem.Spec PyProof.Rows L2 SX

/-! ### moves -/
inductive Mv1 : Wd → Wd → Prop
  | tick (W : Wd) (t : Int) (h0 : 0 ≤ t) : Mv1 W { W with clock := W.clock + t }
  | off (W : Wd) (o : Int) (h0 : -W.behind ≤ o) (h1 : o ≤ W.span - W.behind) : Mv1 W { W with offset := o }
  | grow (W : Wd) (e : Nat) (h : e ≤ 1) : Mv1 W (W.grow e)
  | erase (W : Wd) : Mv1 W { W with there := false }
inductive Goes : Wd → Wd → Prop
  | refl (W : Wd) : Goes W W
  | step {W W1 W2 : Wd} (h : Goes W W1) (m : Mv1 W1 W2) : Goes W W2
theorem Goes.one {W W' : Wd} (m : Mv1 W W') : Goes W W' := .step (.refl W) m
theorem Goes.trans {W W1 W2 : Wd} (h : Goes W W1) (h2 : Goes W1 W2) : Goes W W2 := by
  induction h2 with
  | refl => exact h
  | step _ m ih => exact .step ih m
theorem Mv1.ok {W W' : Wd} (m : Mv1 W W') (ok : WOk W) : WOk W' := by
  obtain ⟨h1, h2, h3, h4, h5, h6, h7, h8, h9, h10, h11, h12⟩ := ok
  cases m with
  | tick t h0 => exact ⟨h1, h2, h3, h4, h5, h6, h7, h8, h9, by show 0 ≤ W.clock + t; omega, h11, h12⟩
  | off o a b => exact ⟨h1, h2, h3, h4, h5, a, b, h8, h9, h10, h11, h12⟩
  | grow e h => exact ⟨h1, h2, h3, h4, h5, h6, h7, h8, h9, h10, by show 1 ≤ W.version + 1; omega, by show 1 ≤ W.epoch + e; omega⟩
  | erase => exact ⟨h1, h2, h3, h4, h5, h6, h7, h8, h9, h10, h11, h12⟩
theorem Goes.ok {W W' : Wd} (g : Goes W W') (ok : WOk W) : WOk W' := by
  induction g with
  | refl => exact ok
  | step _ m ih => exact m.ok ih
/-- what never changes -/
def Fix (W W' : Wd) : Prop := W'.md = W.md ∧ W'.behind = W.behind ∧ W'.span = W.span ∧ W'.gap = W.gap ∧ W'.head = W.head ∧ W'.tail = W.tail
theorem Mv1.fix {W W' : Wd} (m : Mv1 W W') : Fix W W' := by
  cases m <;> exact ⟨rfl, rfl, rfl, rfl, rfl, rfl⟩
theorem Goes.fix {W W' : Wd} (g : Goes W W') : Fix W W' := by
  induction g with
  | refl => exact ⟨rfl, rfl, rfl, rfl, rfl, rfl⟩
  | step _ m ih =>
    obtain ⟨a1, a2, a3, a4, a5, a6⟩ := ih
    obtain ⟨b1, b2, b3, b4, b5, b6⟩ := m.fix
    exact ⟨b1.trans a1, b2.trans a2, b3.trans a3, b4.trans a4, b5.trans a5, b6.trans a6⟩
/-- all but b and d as it was -/
def Kq (b d : Addr) (H H' : Hp) : Prop := ∀ c o, c ≠ b → c ≠ d → H c = some o → H' c = some o
theorem Kq.refl (b d : Addr) (H : Hp) : Kq b d H H := fun _ _ _ _ h => h
theorem Kq.trans {b d : Addr} {H H1 H2 : Hp} (x : Kq b d H H1) (y : Kq b d H1 H2) : Kq b d H H2 := fun c o n m h => y c o n m (x c o n m h)
theorem Kq.b {b d : Addr} {H H' : Hp} (x : Kp b H H') : Kq b d H H' := fun c o n _ h => x c o n h
theorem Kq.d {b d : Addr} {H H' : Hp} (x : Kp d H H') : Kq b d H H' := fun c o _ m h => x c o m h
theorem Kq.s {b d : Addr} {H H' : Hp} (x : Same H H') : Kq b d H H' := fun c o _ _ h => x c o h
theorem seq_by {t u : TS} {D : Ends} {σ : L2.St} {H : Hp} (P : L2.St → Hp → Prop) (h : ∀ D' : Ends, (∀ σ' H', P σ' H' → D'.nx σ' H') → t D' σ H) (k : ∀ σ' H', P σ' H' → u D σ' H') : tSeq t u D σ H := h _ k

theorem at6 {α : Type} {a b c d e f : α} {p : Int} (P : α → Prop) (h0 : 0 ≤ p) (h1 : p < 6) (ha : P a) (hb : P b) (hc : P c) (hd : P d) (he : P e) (hf : P f) : ∃ v, atI [a, b, c, d, e, f] p = some v ∧ P v := by
  obtain ⟨j, rfl⟩ : ∃ j : Nat, p = (j : Int) := ⟨p.toNat, by omega⟩
  have hj : j < 6 := by omega
  match j, hj with
  | 0, _ => exact ⟨a, rfl, ha⟩
  | 1, _ => exact ⟨b, rfl, hb⟩
  | 2, _ => exact ⟨c, rfl, hc⟩
  | 3, _ => exact ⟨d, rfl, hd⟩
  | 4, _ => exact ⟨e, rfl, he⟩
  | 5, _ => exact ⟨f, rfl, hf⟩
section
variable {w : World} {K : PySem.W.Frag} {mg : Str → Option Value} {base : Heap} {k : Nat} {N ps : List Str} {sp : Sp}
def spStep : Sp := fun vs H Q _ => ∃ b d W code, vs = [.ref b, .ref d, .str code] ∧ ∃ cl, BagAt H b cl ∧ WAt H d W ∧ WOk W ∧
  ∀ W' H', Goes W W' → W'.clock ≤ W.clock + 30000 → W'.version ≤ W.version + 2 → W'.epoch ≤ W.epoch + 2 → Kq b d H H' → BagAt H' b cl → WAt H' d W' → Q .non H'
theorem sc_step : FnScope ["_law_bag_here", "_law_world_here", "_law_code", "_law_free", "_law_span", "_law_gap", "_law_ticks"] ["_law_bag_here", "_law_world_here", "_law_code"] (defScope d_law_step.st) := ⟨rfl, rfl, rfl, by decide +kernel, rfl, by decide +kernel, by decide +kernel⟩
theorem r_step (T : Tx K mg) : FnR PP w K mg base CX0 3 (gA K "_law_step") spStep := by
  have F1 : FnR PP w K mg base CX0 1 (gA K "_law_take") spTake := r_take T
  have F2 : FnR PP w K mg base CX0 2 (gA K "_law_grow") spGrow := r_grow T
  refine fnr_of (d := d_law_step) T 25 rfl sc_step (fun _ _ _ _ _ _ us hl => match us, hl with | [_, _, _], _ => rfl) (fun vs H Q E h => ?_) (fun cdv A outer s H vs Q E hr h => ?_)
  · obtain ⟨_, _, _, _, rfl, _⟩ := h
    rfl
  · obtain ⟨b, d, W, code, rfl, cl, hb, hW, ok, k⟩ := h
    have hu := unitsOk hr
    have hr1 := hr.mono (show 1 ≤ 2 by decide)
    refine ⟨_, pss_cons (ps_set (i := 3) sc_step.nd rfl (Or.inl rfl) (pe_callR F1 hr1 rfl (T.glo "_law_take") (T.keep "_law_take") pass0 (pa_cons (pv 0) (pa_cons pe_int pa_nil))))
      (pss_cons (ps_set (i := 4) sc_step.nd rfl (Or.inl rfl) (pe_dget hu (pv 1) pe_str (fun _ _ => rfl)))
      (pss_cons (ps_set (i := 5) sc_step.nd rfl (Or.inl rfl) (pe_dget hu (pv 1) pe_str (fun _ _ => rfl)))
      (pss_cons (ps_if (pt_cmpR op_eq (pv 2) pe_str (nomark _))
        (pss_cons (ps_set (i := 6) sc_step.nd rfl (Or.inl rfl) (pe_ix ix_list (pe_lst (pa_cons (pe_op op_add (pv 5) (pv 4)) (pa_cons pe_int (pa_cons (pv 5) (pa_cons (pv 4) (pa_cons pe_int (pa_cons (pe_op op_add pe_int (pv 3)) pa_nil))))))) (pe_callR F1 hr1 rfl (T.glo "_law_take") (T.keep "_law_take") pass0 (pa_cons (pv 0) (pa_cons pe_int pa_nil))) (fun _ _ => rfl)))
        (pss_one (ps_dput hu (pv 1) pe_str (pe_op op_add (pe_dget hu (pv 1) pe_str (fun _ _ => rfl)) (pv 6)) rfl))) pss_nil)
      (pss_cons (ps_if (pt_cmpR op_eq (pv 2) pe_str (nomark _))
        (pss_one (ps_dput hu (pv 1) pe_str (pe_op op_sub (pe_callR F1 hr1 rfl (T.glo "_law_take") (T.keep "_law_take") pass0 (pa_cons (pv 0) (pa_cons (pe_op op_add (pv 4) pe_int) pa_nil))) (pe_dget hu (pv 1) pe_str (fun _ _ => rfl))) rfl)) pss_nil)
      (pss_cons (ps_if (pt_cmpR op_eq (pv 2) pe_str (nomark _)) (pss_one (ps_expr (pe_callR F2 hr rfl (T.glo "_law_grow") (T.keep "_law_grow") pass0 (pa_cons (pv 1) (pa_cons pe_int pa_nil))))) pss_nil)
      (pss_cons (ps_if (PW.pt (pw_and (pt_cmpR op_eq (pv 2) pe_str (nomark _)) (pw_and1 (pt_val (pe_dget hu (pv 1) pe_str (fun _ _ => rfl)))))) (pss_one (ps_expr (pe_callR F2 hr rfl (T.glo "_law_grow") (T.keep "_law_grow") pass0 (pa_cons (pv 1) (pa_cons pe_int pa_nil))))) pss_nil)
      (pss_one (ps_if (pt_cmpR op_eq (pv 2) pe_str (nomark _)) (pss_one (ps_dput hu (pv 1) pe_str pe_bl rfl)) pss_nil)))))))), ?_⟩
    have ndb : d ≠ b := hW.ne hb
    refine ⟨_, rfl, b, 30000, rfl, cl, hb, by decide, by decide, fun free H1 f0 f1 k1 b1 => ?_⟩
    have w1 := hW.kp ndb k1
    refine ⟨_, rfl, d, _, rfl, w1.g .span, ?_⟩
    refine ⟨_, rfl, d, _, rfl, w1.g .gap, ?_⟩
    obtain ⟨g0, g1, s0, s1⟩ : 0 ≤ W.gap ∧ W.gap ≤ 2003 ∧ 0 ≤ W.span ∧ W.span ≤ 2000 := ⟨ok.g0, ok.g1, Int.le_trans ok.b0 ok.bs, ok.s1⟩
    dsimp only [gName]
    refine seq_by (t := tIfS _ _ _) (fun σ' H' => ∃ t W', σ' = [some (.ref b), some (.ref d), some (.str code), some (.int free), some (.int W.span), some (.int W.gap), t] ∧ Goes W W' ∧ W'.clock ≤ W.clock + 30000 ∧ W'.version ≤ W.version ∧ W'.epoch ≤ W.epoch ∧ Kq b d H H' ∧ BagAt H' b cl ∧ WAt H' d W') (fun D' k' => ?_) (fun σ2 H2 h2 => ?_)
    · refine ⟨_, rfl, rfl, _, rfl, iteAny ?_ ?_⟩
      · refine ⟨_, rfl, _, rfl, _, _, rfl, rfl, _, rfl, _, rfl, _, rfl, _, _, rfl, rfl, (by show 6 ≤ sizeLine; rw [sizeLine_eq]; decide), fun l nl => ?_⟩
        have b1' := b1.mono (same_upd (o := .lst [.int (W.gap + W.span), .int 1, .int W.gap, .int W.span, .int 2, .int (1 + free)]) nl)
        have w1' := w1.mono (same_upd (o := .lst [.int (W.gap + W.span), .int 1, .int W.gap, .int W.span, .int 2, .int (1 + free)]) nl)
        refine ⟨_, rfl, b, 6, rfl, cl, b1', by decide, by decide, fun p H2 p0 p1 k2 b2 => ?_⟩
        obtain ⟨tv, e1, t, et, t0, t1⟩ := at6 (p := p) (fun v => ∃ t : Int, v = V.int t ∧ 0 ≤ t ∧ t ≤ 30000) (a := .int (W.gap + W.span)) (b := .int 1) (c := .int W.gap) (d := .int W.span) (e := .int 2) (f := .int (1 + free)) p0 p1 ⟨_, rfl, by omega, by omega⟩ ⟨_, rfl, by omega, by omega⟩ ⟨_, rfl, by omega, by omega⟩ ⟨_, rfl, by omega, by omega⟩ ⟨_, rfl, by omega, by omega⟩ ⟨_, rfl, by omega, by omega⟩
        subst et
        obtain ⟨xb, hxb⟩ := b1.has
        refine ⟨l, _, _, _, rfl, rfl, SqL.of (k2 _ _ (ne_of_none hxb nl).symm upd_same), e1, ?_⟩
        have w2 := w1'.kp ndb k2
        obtain ⟨H3, p3, k3, w3⟩ := w2.set .clock (.int (W.clock + t)) { W with clock := W.clock + t } (by intro j; cases j <;> rfl)
        refine ⟨_, rfl, d, _, rfl, w2.g .clock, _, rfl, _, _, rfl, rfl, _, rfl, d, H3, rfl, p3, k' _ _ ⟨some (.int t), _, rfl, .one (.tick W t t0), ?_, Nat.le_refl _, Nat.le_refl _, ?_, b2.kpw w2 k3, w3⟩⟩
        · show W.clock + t ≤ W.clock + 30000
          omega
        · exact (Kq.b k1).trans ((Kq.s (same_upd nl)).trans ((Kq.b k2).trans (Kq.d k3)))
      · exact k' _ _ ⟨none, W, rfl, .refl W, by omega, Nat.le_refl _, Nat.le_refl _, Kq.b k1, b1, w1⟩
    · obtain ⟨t, W2, rfl, go2, c2, v2, e2, q2, b2, w2⟩ := h2
      refine seq_by (t := tIfS _ _ _) (fun σ' H' => ∃ t W', σ' = [some (.ref b), some (.ref d), some (.str code), some (.int free), some (.int W.span), some (.int W.gap), t] ∧ Goes W W' ∧ W'.clock ≤ W.clock + 30000 ∧ W'.version ≤ W.version ∧ W'.epoch ≤ W.epoch ∧ Kq b d H H' ∧ BagAt H' b cl ∧ WAt H' d W') (fun D' k' => ?_) (fun σ3 H3 h3 => ?_)
      · refine ⟨_, rfl, rfl, _, rfl, iteAny ?_ (k' _ _ ⟨t, W2, rfl, go2, c2, v2, e2, q2, b2, w2⟩)⟩
        refine ⟨_, rfl, _, rfl, _, _, rfl, rfl, b, W.span + 1, rfl, cl, b2, by omega, by omega, fun o H3 o0 o1 k3 b3 => ?_⟩
        have w3 := w2.kp ndb k3
        obtain ⟨f1, f2, f3, f4, f5, f6⟩ := go2.fix
        obtain ⟨H4, p4, k4, w4⟩ := w3.set .offset (.int (o - W2.behind)) { W2 with offset := o - W2.behind } (by intro j; cases j <;> rfl)
        refine ⟨_, rfl, d, _, rfl, w3.g .behind, _, _, rfl, rfl, _, rfl, d, H4, rfl, p4, k' _ _ ⟨t, { W2 with offset := o - W2.behind }, rfl, .step go2 (.off W2 (o - W2.behind) (by omega) (by rw [f3]; omega)), c2, v2, e2, ?_, b3.kpw w3 k4, w4⟩⟩
        exact q2.trans ((Kq.b k3).trans (Kq.d k4))
      · obtain ⟨t, W3, rfl, go3, c3, v3, e3, q3, b3, w3⟩ := h3
        refine seq_by (t := tIfS _ _ _) (fun σ' H' => ∃ t W', σ' = [some (.ref b), some (.ref d), some (.str code), some (.int free), some (.int W.span), some (.int W.gap), t] ∧ Goes W W' ∧ W'.clock ≤ W.clock + 30000 ∧ W'.version ≤ W.version + 1 ∧ W'.epoch ≤ W.epoch + 1 ∧ Kq b d H H' ∧ BagAt H' b cl ∧ WAt H' d W') (fun D' k' => ?_) (fun σ4 H4 h4 => ?_)
        · refine ⟨_, rfl, rfl, _, rfl, iteAny ?_ (k' _ _ ⟨t, W3, rfl, go3, c3, Nat.le_succ_of_le v3, Nat.le_succ_of_le e3, q3, b3, w3⟩)⟩
          refine ⟨_, rfl, d, W3, 1, rfl, w3, fun H4 k4 w4 => k' _ _ ⟨t, _, rfl, .step go3 (.grow W3 1 (Nat.le_refl 1)), c3, Nat.succ_le_succ v3, Nat.succ_le_succ e3, q3.trans (Kq.d k4), b3.kpw w3 k4, w4⟩⟩
        · obtain ⟨t, W4, rfl, go4, c4, v4, e4, q4, b4, w4⟩ := h4
          refine seq_by (t := tIfS _ _ _) (fun σ' H' => ∃ t W', σ' = [some (.ref b), some (.ref d), some (.str code), some (.int free), some (.int W.span), some (.int W.gap), t] ∧ Goes W W' ∧ W'.clock ≤ W.clock + 30000 ∧ W'.version ≤ W.version + 2 ∧ W'.epoch ≤ W.epoch + 2 ∧ Kq b d H H' ∧ BagAt H' b cl ∧ WAt H' d W') (fun D' k' => ?_) (fun σ5 H5 h5 => ?_)
          · have no := k' _ _ ⟨t, W4, rfl, go4, c4, Nat.le_succ_of_le v4, Nat.le_succ_of_le e4, q4, b4, w4⟩
            refine ⟨_, rfl, rfl, _, rfl, iteAny ⟨_, rfl, d, _, rfl, w4.g .there, _, rfl, iteAny ?_ no⟩ (iteF no)⟩
            refine ⟨_, rfl, d, W4, 0, rfl, w4, fun H5 k5 w5 => k' _ _ ⟨t, _, rfl, .step go4 (.grow W4 0 (by decide)), c4, Nat.succ_le_succ v4, Nat.le_succ_of_le e4, q4.trans (Kq.d k5), b4.kpw w4 k5, w5⟩⟩
          · obtain ⟨t, W5, rfl, go5, c5, v5, e5, q5, b5, w5⟩ := h5
            refine ⟨_, rfl, rfl, _, rfl, iteAny ?_ (k W5 H5 go5 c5 v5 e5 q5 b5 w5)⟩
            obtain ⟨H6, p6, k6, w6⟩ := w5.set .there (.bl false) { W5 with there := false } (by intro j; cases j <;> rfl)
            exact ⟨_, rfl, d, H6, rfl, p6, k _ H6 (.step go5 (.erase W5)) c5 v5 e5 (q5.trans (Kq.d k6)) (b5.kpw w5 k6) w6⟩
end
end K13

set_option Elab.async false
set_option linter.all false
set_option maxRecDepth 100000
set_option maxHeartbeats 4000000
/-! why the answers are due: no program in sight -/
namespace K13
open PySem PySem.Spec PyProof.Rows L2 SX

/-! ### notes -/
structure Nt where
  ver : Nat
  epo : Nat
  tg : Mk0
  kn : Option Int
def Wd.note (W : Wd) : Nt := ⟨W.version, W.epoch, W.tag, if W.isSet = true then some W.reading else none⟩
def Wd.unchN (W : Wd) (n : Nt) (num : Option Int) : Bool := match n.kn, num with
  | some i, some r => if W.span < W.gap then decide (n.ver = W.version) else decide (r ≤ i)
  | _, _ => false
def Wd.unch (W : Wd) (n : Nt) (num : Option Int) : Bool := match W.md with
  | .strong => decide (n.ver = W.version)
  | .weak => decide (n.epo = W.epoch)
  | .none => W.unchN n num
def Wd.due (W : Wd) (n : Nt) (num : Option Int) (st : Bool) : Str :=
  if W.there = true then (if W.unch n num = true then "same" else "go") else (if st = true then "failed" else "go")
def chOf (mk : Mk0) (c : Option Int) : Option Int := match mk with
  | some _ => none
  | none => c
def Wd.cur (W : Wd) (num : Option Int) : Cu := if W.there = true then some (W.tag, num) else none
/-- told since a note -/
structure Since (W0 W : Wd) : Prop where
  le : W0.version ≤ W.version
  clk : W0.clock ≤ W.clock
  same : W.version = W0.version → W.reading = W0.reading
  later : W0.gap ≤ W0.shown - W0.reading → W0.span < W0.gap → W0.version < W.version → W0.reading < W.reading
theorem Goes.since {W0 W : Wd} (g : Goes W0 W) (ok : WOk W0) : Since W0 W := by
  induction g with
  | refl => exact ⟨Nat.le_refl _, Int.le_refl _, fun _ => rfl, fun _ _ h => absurd h (Nat.lt_irrefl _)⟩
  | @step W1 W2 g m ih =>
    obtain ⟨h1, h2, h3, h4⟩ := ih
    have ok1 := g.ok ok
    obtain ⟨f1, f2, f3, f4, f5, f6⟩ := g.fix
    cases m with
    | tick t h0 => exact ⟨h1, by show W0.clock ≤ W1.clock + t; omega, h3, h4⟩
    | off o a b => exact ⟨h1, h2, h3, h4⟩
    | grow e he =>
      refine ⟨by show W0.version ≤ W1.version + 1; omega, h2, fun z => ?_, fun a b c => ?_⟩
      · have z : W1.version + 1 = W0.version := z
        omega
      · show W0.reading < W1.clock + W1.offset
        have o1 := ok.o1
        have o0 := ok1.o0
        have a : W0.gap ≤ W0.clock + W0.offset - W0.reading := a
        omega
    | erase => exact ⟨h1, h2, h3, h4⟩
theorem numL_inj {n m : Nat} (h : TL.numL n = TL.numL m) : n = m := by
  have e : intL (n : Int) = intL (m : Int) := by rw [intL_nat, intL_nat, h]
  have := intL_inj e
  omega
theorem mid_eq {a b : List Nat} {n m : Nat} : (a ++ TL.numL n ++ b = a ++ TL.numL m ++ b) ↔ n = m := by
  constructor
  · intro h
    exact numL_inj (List.append_cancel_left (List.append_cancel_right h))
  · rintro rfl
    rfl
/-- THE PLAIN LAW -/
theorem ans_due {W0 W : Wd} (ok : WOk W0) (g : Goes W0 W) (num : Option Int) (hn : num = none ∨ num = some W.reading) (st : Bool) : ans st W0.note.tg (chOf W0.note.tg W0.note.kn) (W.cur num) = W.due W0.note num st := by
  have sc := g.since ok
  obtain ⟨f1, f2, f3, f4, f5, f6⟩ := g.fix
  cases hth : W.there with
  | false =>
    have e1 : W.cur num = none := by
      unfold Wd.cur
      rw [hth]
      rfl
    have e2 : W.due W0.note num st = if st = true then ("failed" : Str) else ("go" : Str) := by
      unfold Wd.due
      rw [hth]
      rfl
    rw [e1, e2]
    cases st with
    | true => rfl
    | false =>
      show (match W0.note.tg with | none => if knownB (chOf W0.note.tg W0.note.kn) none = true then ("same" : Str) else ("go" : Str) | some (l, _) => ("go" : Str)) = ("go" : Str)
      cases W0.note.tg with
      | none =>
        have : knownB (chOf none W0.note.kn) none = false := by
          unfold knownB chOf
          cases W0.note.kn <;> rfl
        show (if knownB (chOf none W0.note.kn) none = true then ("same" : Str) else ("go" : Str)) = _
        rw [this]
        rfl
      | some p => rfl
  | true =>
    have e1 : W.cur num = some (W.tag, num) := by
      unfold Wd.cur
      rw [hth]
      rfl
    have e2 : W.due W0.note num st = if W.unch W0.note num = true then ("same" : Str) else ("go" : Str) := by
      unfold Wd.due
      rw [hth]
      rfl
    rw [e1, e2]
    have eb : bindB st (some (W.tag, num)) = true := by
      unfold bindB
      cases st <;> rfl
    have ea : ∀ (nm : Mk0) (ch : Option Int), ans st nm ch (some (W.tag, num)) = match nm with
        | none => if knownB ch (some (W.tag, num)) = true then ("same" : Str) else ("go" : Str)
        | some (l, _) => match (some (W.tag, num) : Cu) with
          | some (some (l', _), _) => if l = l' then ("same" : Str) else ("go" : Str)
          | _ => ("go" : Str) := fun nm ch => by
      unfold ans
      rw [eb]
      rfl
    rw [ea]
    cases hm : W0.md with
    | strong =>
      have t0 : W0.note.tg = some (W0.head ++ TL.numL W0.version ++ W0.tail, false) := by
        show W0.tag = _
        unfold Wd.tag
        rw [hm]
      have t1 : W.tag = some (W0.head ++ TL.numL W.version ++ W0.tail, false) := by
        unfold Wd.tag
        rw [f1, hm, f5, f6]
      have u : W.unch W0.note num = decide (W0.version = W.version) := by
        unfold Wd.unch
        rw [f1, hm]
        rfl
      rw [t0, t1, u]
      show (if W0.head ++ TL.numL W0.version ++ W0.tail = W0.head ++ TL.numL W.version ++ W0.tail then ("same" : Str) else ("go" : Str)) = _
      by_cases h : W0.version = W.version
      · rw [if_pos (mid_eq.mpr h), if_pos (decide_eq_true h)]
      · rw [if_neg (fun z => h (mid_eq.mp z)), if_neg (fun z => h (of_decide_eq_true z))]
    | weak =>
      have t0 : W0.note.tg = some (W0.head ++ TL.numL W0.epoch ++ W0.tail, true) := by
        show W0.tag = _
        unfold Wd.tag
        rw [hm]
      have t1 : W.tag = some (W0.head ++ TL.numL W.epoch ++ W0.tail, true) := by
        unfold Wd.tag
        rw [f1, hm, f5, f6]
      have u : W.unch W0.note num = decide (W0.epoch = W.epoch) := by
        unfold Wd.unch
        rw [f1, hm]
        rfl
      rw [t0, t1, u]
      show (if W0.head ++ TL.numL W0.epoch ++ W0.tail = W0.head ++ TL.numL W.epoch ++ W0.tail then ("same" : Str) else ("go" : Str)) = _
      by_cases h : W0.epoch = W.epoch
      · rw [if_pos (mid_eq.mpr h), if_pos (decide_eq_true h)]
      · rw [if_neg (fun z => h (mid_eq.mp z)), if_neg (fun z => h (of_decide_eq_true z))]
    | none =>
      have t0 : W0.note.tg = none := by
        show W0.tag = _
        unfold Wd.tag
        rw [hm]
      have u : W.unch W0.note num = W.unchN W0.note num := by
        unfold Wd.unch
        rw [f1, hm]
      rw [t0, u]
      unfold Wd.unchN
      show (if knownB W0.note.kn (some (W.tag, num)) = true then ("same" : Str) else ("go" : Str)) = _
      cases hk : W0.isSet with
      | false =>
        have kn : W0.note.kn = none := by
          show (if W0.isSet = true then some W0.reading else none) = none
          rw [hk]
          rfl
        rw [kn]
        rfl
      | true =>
        have kn : W0.note.kn = some W0.reading := by
          show (if W0.isSet = true then some W0.reading else none) = some W0.reading
          rw [hk]
          rfl
        have hk : W0.gap ≤ W0.shown - W0.reading := of_decide_eq_true hk
        rw [kn]
        rcases hn with rfl | rfl
        · rfl
        · show (if decide (W.reading ≤ W0.reading) = true then ("same" : Str) else ("go" : Str)) = (if (if W.span < W.gap then decide (W0.version = W.version) else decide (W.reading ≤ W0.reading)) = true then ("same" : Str) else ("go" : Str))
          by_cases hg : W.span < W.gap
          · rw [if_pos hg]
            rw [f3, f4] at hg
            by_cases hv : W0.version = W.version
            · have := sc.same hv.symm
              rw [decide_eq_true hv, decide_eq_true (show W.reading ≤ W0.reading by omega)]
            · have := sc.later hk hg (by have := sc.le; omega)
              rw [decide_eq_false hv, decide_eq_false (show ¬ W.reading ≤ W0.reading by omega)]
          · rw [if_neg hg]

/-! ### fields asked -/
structure GOk (gs : List (Str × Str)) (st : Bool) : Prop where
  ok : FOk gs
  len : gs.length ≤ 39
  im : valsOf "if-mark" gs = stL st
  iu : valsOf "if-unchanged" gs = []
theorem valsOf_app {n : Str} {a b : List (Str × Str)} : valsOf n (a ++ b) = valsOf n a ++ valsOf n b := by
  unfold valsOf
  rw [List.filter_append, List.map_append]
theorem valsOf_one_eq {n z : Str} : valsOf n [(n, z)] = [z] := by
  unfold valsOf
  rw [List.filter_cons, if_pos (decide_eq_true rfl)]
  rfl
theorem valsOf_one_ne {n m z : Str} (h : m ≠ n) : valsOf n [(m, z)] = [] := by
  unfold valsOf
  rw [List.filter_cons, if_neg (fun e => h (of_decide_eq_true e))]
  rfl
theorem valsOf_filter {n : Str} {gs : List (Str × Str)} {p : Str × Str → Bool} (h : ∀ z, p (n, z) = true) : valsOf n (gs.filter p) = valsOf n gs := by
  unfold valsOf
  rw [List.filter_filter]
  refine congrArg (List.map (fun q : Str × Str => q.2)) (List.filter_congr fun q _ => ?_)
  by_cases e : q.1 = n
  · rw [decide_eq_true e]
    have := h q.2
    rw [← e] at this
    rw [Bool.true_and]
    exact this
  · rw [decide_eq_false e, Bool.false_and]
theorem valsOf_gone {n : Str} {gs : List (Str × Str)} {p : Str × Str → Bool} (h : ∀ z, p (n, z) = false) : valsOf n (gs.filter p) = [] := by
  unfold valsOf
  rw [List.filter_filter]
  have e : gs.filter (fun q => decide (q.1 = n) && p q) = [] := List.filter_eq_nil_iff.mpr fun q _ => by
    by_cases e : q.1 = n
    · have := h q.2
      rw [← e] at this
      rw [show p q = false from this, Bool.and_false]
      exact Bool.false_ne_true
    · rw [decide_eq_false e, Bool.false_and]
      exact Bool.false_ne_true
  rw [e]
  rfl
theorem own_gone {n : Str} {gs : List (Str × Str)} (h : n ∈ OWN) : valsOf n (gs.filter (keepW OWN)) = [] := valsOf_gone fun z => Bool.eq_false_iff.mpr fun e => keepW_true.mp e h
theorem own_kept {n : Str} {gs : List (Str × Str)} (h : n ∉ OWN) : valsOf n (gs.filter (keepW OWN)) = valsOf n gs := valsOf_filter fun z => keepW_true.mpr h
theorem in1 : ("if-no-mark" : Str) ∈ OWN := by decide +kernel
theorem in2 : ("if-changed" : Str) ∈ OWN := by decide +kernel
theorem in3 : ("if-part" : Str) ∈ OWN := by decide +kernel
theorem ni1 : ("if-mark" : Str) ∉ OWN := by decide +kernel
theorem ni2 : ("if-unchanged" : Str) ∉ OWN := by decide +kernel
theorem snoc_eq {n z : Str} {A : List (Str × Str)} : valsOf n (A.filter (fun q => decide (q.1 ≠ n)) ++ [(n, z)]) = [z] := by
  rw [valsOf_app, valsOf_one_eq, valsOf_gone (fun z => by simp)]
  rfl
theorem snoc_ne {n m z : Str} {A : List (Str × Str)} (h : m ≠ n) : valsOf n (A.filter (fun q => decide (q.1 ≠ m)) ++ [(m, z)]) = valsOf n A := by
  rw [valsOf_app, valsOf_one_ne h, List.append_nil, valsOf_filter (fun z => by simp; exact fun e => h e.symm)]
theorem asks_check {gs : List (Str × Str)} {st : Bool} {mk : Mk0} {c : Option Int} (h : GOk gs st) (hm : MkOk mk) (hc : RdOk c) : Asks (checkF gs mk c) st mk (chOf mk c) := by
  have d1 : ("if-no-mark" : Str) ≠ "if-mark" := by decide +kernel
  have d2 : ("if-no-mark" : Str) ≠ "if-unchanged" := by decide +kernel
  have d3 : ("if-no-mark" : Str) ≠ "if-changed" := by decide +kernel
  have d4 : ("if-no-mark" : Str) ≠ "if-part" := by decide +kernel
  have d5 : ("if-changed" : Str) ≠ "if-mark" := by decide +kernel
  have d6 : ("if-changed" : Str) ≠ "if-unchanged" := by decide +kernel
  have d7 : ("if-changed" : Str) ≠ "if-no-mark" := by decide +kernel
  have d8 : ("if-changed" : Str) ≠ "if-part" := by decide +kernel
  have fo := checkF_ok h.ok h.len hm hc
  match mk, c, hm, hc, fo with
  | some (l, wk), c, hm, hc, fo =>
    exact ⟨fo, (snoc_ne d1).trans ((own_kept ni1).trans h.im), snoc_eq, (snoc_ne d2).trans ((own_kept ni2).trans h.iu), (snoc_ne d3).trans (own_gone in2), (snoc_ne d4).trans (own_gone in3), hm, fun _ z => nomatch z⟩
  | none, some i, hm, hc, fo =>
    exact ⟨fo, (snoc_ne d5).trans ((own_kept ni1).trans h.im), (snoc_ne d7).trans (own_gone in1), (snoc_ne d6).trans ((own_kept ni2).trans h.iu), snoc_eq, (snoc_ne d8).trans (own_gone in3), hm, hc⟩
  | none, none, hm, hc, fo =>
    exact ⟨fo, (own_kept ni1).trans h.im, own_gone in1, (own_kept ni2).trans h.iu, own_gone in2, own_gone in3, hm, hc⟩
end K13

set_option Elab.async false
set_option linter.all false
set_option maxRecDepth 100000
set_option maxHeartbeats 4000000
/-! what is due; settled asked -/
namespace K13
open PySem PySem.Spec PyProof.Rows L2 SX
section
variable {w : World} {K : PySem.W.Frag} {mg : Str → Option Value} {base : Heap} {k : Nat} {N ps : List Str} {sp : Sp}

/-- a note stands as v -/
def NoteAt (K : PySem.W.Frag) (H : Hp) (v : V) (n : Nt) : Prop := ∃ tp mv hl c1 c2, v = .ref tp ∧ H tp = some (.tup [.int (n.ver : Int), .int (n.epo : Int), mv, oV n.kn, .ref hl]) ∧ MvAt K H mv n.tg ∧
  H hl = some (.lst [.ref c1, .ref c2]) ∧ CondAt K H c1 false n.tg (chOf n.tg n.kn) ∧ CondAt K H c2 true n.tg (chOf n.tg n.kn)
theorem NoteAt.mono {H H' : Hp} {v : V} {n : Nt} (s : Same H H') (h : NoteAt K H v n) : NoteAt K H' v n := let ⟨tp, mv, hl, c1, c2, e, a, b, c, d, f⟩ := h; ⟨tp, mv, hl, c1, c2, e, s _ _ a, b.mono s, s _ _ c, d.mono s, f.mono s⟩

/-! ### _law_unchanged -/
def spUnch (K : PySem.W.Frag) : Sp := fun vs H Q _ => ∃ d v W n num, vs = [.ref d, v, oV num] ∧ WAt H d W ∧ NoteAt K H v n ∧ Q (.bl (W.unch n num)) H
theorem sc_unch : FnScope ["_law_world_here", "_law_note_here", "_law_number"] ["_law_world_here", "_law_note_here", "_law_number"] (defScope d_law_unchanged.st) := ⟨rfl, rfl, rfl, by decide +kernel, rfl, by decide +kernel, by decide +kernel⟩
theorem qn {a b : Nat} {c : Bool} {Q : VK} {H : Hp} (e : c = decide (a = b)) (q : Q (.bl c) H) : Q (.bl (decide (V.int (a : Int) = V.int (b : Int)))) H := by
  refine qb (Q := Q) ?_ q
  rw [e, decide_eq_decide]
  exact ⟨fun h => by have := V.int.inj h; omega, fun h => by rw [h]⟩
theorem r_unch (T : Tx K mg) : FnR PP w K mg base CX0 1 (gA K "_law_unchanged") (spUnch K) := by
  refine fnr_of (d := d_law_unchanged) T 28 rfl sc_unch (fun _ _ _ _ _ _ us hl => match us, hl with | [_, _, _], _ => rfl) (fun vs H Q E h => ?_) (fun cdv A outer s H vs Q E hr h => ?_)
  · obtain ⟨_, _, _, _, _, rfl, _⟩ := h
    rfl
  · obtain ⟨d, v, W, n, num, rfl, hW, ⟨tp, mv, hl, c1, c2, ev, htp, _⟩, k⟩ := h
    subst ev
    have hu := unitsOk hr
    refine ⟨_, pss_cons (ps_if (pt_cmpR op_eq (pe_dget hu (pv 0) pe_str (fun _ _ => rfl)) pe_str (nomark _)) (pss_one (ps_ret (pe_cmpR op_eq (pe_ix ix_tup (pv 1) pe_int (fun _ _ => rfl)) (pe_dget hu (pv 0) pe_str (fun _ _ => rfl)) (nomark _)))) pss_nil)
      (pss_cons (ps_if (pt_cmpR op_eq (pe_dget hu (pv 0) pe_str (fun _ _ => rfl)) pe_str (nomark _)) (pss_one (ps_ret (pe_cmpR op_eq (pe_ix ix_tup (pv 1) pe_int (fun _ _ => rfl)) (pe_dget hu (pv 0) pe_str (fun _ _ => rfl)) (nomark _)))) pss_nil)
      (pss_cons (ps_if (PW.pt (pw_or (pt_cmpR op_isN (pe_ix ix_tup (pv 1) pe_int (fun _ _ => rfl)) pe_non (nomark _)) (pw_or1 (pt_cmpR op_isN (pv 2) pe_non (nomark _))))) (pss_one (ps_ret pe_bl)) pss_nil)
      (pss_cons (ps_if (pt_cmpR op_gt (pe_dget hu (pv 0) pe_str (fun _ _ => rfl)) (pe_dget hu (pv 0) pe_str (fun _ _ => rfl)) (nomark _)) (pss_one (ps_ret (pe_cmpR op_eq (pe_ix ix_tup (pv 1) pe_int (fun _ _ => rfl)) (pe_dget hu (pv 0) pe_str (fun _ _ => rfl)) (nomark _)))) pss_nil)
      (pss_one (ps_ret (pe_cmpR op_le (pv 2) (pe_ix ix_tup (pv 1) pe_int (fun _ _ => rfl)) (nomark _))))))), ?_⟩
    refine ⟨_, rfl, d, _, rfl, hW.g .mode, rfl, _, rfl, ?_⟩
    cases hm : W.md with
    | strong =>
      have u : W.unch n num = decide (n.ver = W.version) := by unfold Wd.unch; rw [hm]
      refine iteB (by show decide (V.str W.md.str = V.str "strong") = true; rw [hm]; decide +kernel) ?_
      exact ⟨_, rfl, tp, _, _, _, rfl, rfl, SqT.of htp, atI_nat (j := 0) rfl, _, rfl, d, _, rfl, hW.g .version, rfl, qn (Q := Q) u k⟩
    | weak =>
      have u : W.unch n num = decide (n.epo = W.epoch) := by unfold Wd.unch; rw [hm]
      refine iteN (by show decide (V.str W.md.str = V.str "strong") = false; rw [hm]; decide +kernel) ?_
      refine ⟨_, rfl, d, _, rfl, hW.g .mode, rfl, _, rfl, ?_⟩
      refine iteB (by show decide (V.str W.md.str = V.str "weak") = true; rw [hm]; decide +kernel) ?_
      exact ⟨_, rfl, tp, _, _, _, rfl, rfl, SqT.of htp, atI_nat (j := 1) rfl, _, rfl, d, _, rfl, hW.g .epoch, rfl, qn (Q := Q) u k⟩
    | none =>
      have u : W.unch n num = W.unchN n num := by unfold Wd.unch; rw [hm]
      rw [u] at k
      refine iteN (by show decide (V.str W.md.str = V.str "strong") = false; rw [hm]; decide +kernel) ?_
      refine ⟨_, rfl, d, _, rfl, hW.g .mode, rfl, _, rfl, ?_⟩
      refine iteN (by show decide (V.str W.md.str = V.str "weak") = false; rw [hm]; decide +kernel) ?_
      refine ⟨_, rfl, tp, _, _, _, rfl, rfl, SqT.of htp, atI_nat (j := 3) rfl, rfl, _, rfl, ?_⟩
      unfold Wd.unchN at k
      cases hkn : n.kn with
      | none =>
        rw [hkn] at k
        exact iteB rfl k
      | some i =>
        rw [hkn] at k
        refine iteN rfl ⟨_, rfl, rfl, _, rfl, ?_⟩
        cases num with
        | none => exact iteB rfl k
        | some r =>
          refine iteN rfl ⟨_, rfl, d, _, rfl, hW.g .gap, _, rfl, d, _, rfl, hW.g .span, _, _, rfl, rfl, _, rfl, ?_⟩
          have k : Q (.bl (if W.span < W.gap then decide (n.ver = W.version) else decide (r ≤ i))) H := k
          by_cases hg : W.span < W.gap
          · refine iteB (decide_eq_true hg) ⟨_, rfl, tp, _, _, _, rfl, rfl, SqT.of htp, atI_nat (j := 0) rfl, _, rfl, d, _, rfl, hW.g .version, rfl, ?_⟩
            rw [if_pos hg] at k
            exact qn (Q := Q) rfl k
          · rw [if_neg hg] at k
            refine iteN (decide_eq_false hg) ⟨_, rfl, _, rfl, tp, _, _, _, rfl, rfl, SqT.of htp, atI_nat (j := 3) rfl, _, _, rfl, ?_, k⟩
            rw [hkn]
            rfl

/-! ### _law_due -/
def stI (st : Bool) : Int := if st = true then 1 else 0
def spDue (K : PySem.W.Frag) : Sp := fun vs H Q _ => ∃ d v W n num st, vs = [.ref d, v, oV num, .int (stI st)] ∧ WAt H d W ∧ NoteAt K H v n ∧ ∀ H', Same H H' → Q (.str (W.due n num st)) H'
theorem sc_due : FnScope ["_law_world_here", "_law_note_here", "_law_number", "_law_starred"] ["_law_world_here", "_law_note_here", "_law_number", "_law_starred"] (defScope d_law_due.st) := ⟨rfl, rfl, rfl, by decide +kernel, rfl, by decide +kernel, by decide +kernel⟩
theorem r_due (T : Tx K mg) : FnR PP w K mg base CX0 2 (gA K "_law_due") (spDue K) := by
  have F1 : FnR PP w K mg base CX0 1 (gA K "_law_unchanged") (spUnch K) := r_unch T
  refine fnr_of (d := d_law_due) T 29 rfl sc_due (fun _ _ _ _ _ _ us hl => match us, hl with | [_, _, _, _], _ => rfl) (fun vs H Q E h => ?_) (fun cdv A outer s H vs Q E hr h => ?_)
  · obtain ⟨_, _, _, _, _, _, rfl, _⟩ := h
    rfl
  · obtain ⟨d, v, W, n, num, st, rfl, hW, hn, k⟩ := h
    have hu := unitsOk hr
    refine ⟨_, pss_cons (ps_if (pt_not (pt_val (pe_dget hu (pv 0) pe_str (fun _ _ => rfl)))) (pss_one (ps_ret (pe_ix ix_list (pe_lst (pa_cons pe_str (pa_cons pe_str pa_nil))) (pv 3) (fun _ _ => rfl)))) pss_nil)
      (pss_cons (ps_if (pt_val (pe_callR F1 hr rfl (T.glo "_law_unchanged") (T.keep "_law_unchanged") pass0 (pa_cons (pv 0) (pa_cons (pv 1) (pa_cons (pv 2) pa_nil))))) (pss_one (ps_ret pe_str)) pss_nil)
      (pss_one (ps_ret pe_str))), ?_⟩
    refine ⟨_, rfl, d, _, rfl, hW.g .there, W.there, rfl, ?_⟩
    unfold Wd.due at k
    cases hth : W.there with
    | false =>
      rw [hth] at k
      refine iteT ⟨(by show 2 ≤ sizeLine; rw [sizeLine_eq]; decide), fun l nl => ?_⟩
      cases st with
      | true => exact ⟨_, rfl, l, _, _, _, rfl, rfl, SqL.of upd_same, (rfl : atI [V.str "go", V.str "failed"] 1 = some (V.str "failed")), k _ (same_upd nl)⟩
      | false => exact ⟨_, rfl, l, _, _, _, rfl, rfl, SqL.of upd_same, (rfl : atI [V.str "go", V.str "failed"] 0 = some (V.str "go")), k _ (same_upd nl)⟩
    | true =>
      rw [hth] at k
      refine iteF ⟨_, rfl, _, rfl, _, rfl, d, v, W, n, num, rfl, hW, hn, W.unch n num, rfl, ?_⟩
      cases hc : W.unch n num with
      | true =>
        rw [hc] at k
        exact iteT (k H (Same.refl _))
      | false =>
        rw [hc] at k
        exact iteF (k H (Same.refl _))

/-! ### _law_truth_of_settled -/
def spTos : Sp := fun vs H Q _ => ∃ d W, vs = [.ref d] ∧ WAt H d W ∧ Q (.bl true) H
theorem sc_tos : FnScope ["_law_world_here", "_law_reading", "_law_gap", "_law_shown_here"] ["_law_world_here"] (defScope d_law_truth_of_settled.st) := ⟨rfl, rfl, rfl, by decide +kernel, rfl, by decide +kernel, by decide +kernel⟩
theorem r_tos (T : Tx K mg) : FnR PP w K mg base CX0 3 (gA K "_law_truth_of_settled") spTos := by
  have F1 : FnR PP w K mg base CX0 1 (gA K "_law_truth") spTruth := r_truth T
  have F2 : FnR PP w K mg base CX0 1 (gA K "settled") spSettled := r_settled T
  have F3 : FnR PP w K mg base CX0 2 (gA K "_law_is_settled") spIsSet := r_isset T
  have F4 : FnR PP w K mg base CX0 1 (gA K "_law_shown") spShown := r_shown T
  obtain ⟨fd, F5, hb⟩ := r_settledK (w := w) (base := base) T
  refine fnr_of (d := d_law_truth_of_settled) T 31 rfl sc_tos (fun _ _ _ _ _ _ us hl => match us, hl with | [_], _ => rfl) (fun vs H Q E h => ?_) (fun cdv A outer s H vs Q E hr h => ?_)
  · obtain ⟨_, _, rfl, _⟩ := h
    rfl
  · obtain ⟨d, W, rfl, hW, k⟩ := h
    have hu := unitsOk hr
    have hr1 := hr.mono (show 1 ≤ 2 by decide)
    refine ⟨_, pss_cons (ps_set (i := 1) sc_tos.nd rfl (Or.inl rfl) (pe_dget hu (pv 0) pe_str (fun _ _ => rfl)))
      (pss_cons (ps_set (i := 2) sc_tos.nd rfl (Or.inl rfl) (pe_dget hu (pv 0) pe_str (fun _ _ => rfl)))
      (pss_cons (ps_set (i := 3) sc_tos.nd rfl (Or.inl rfl) (pe_callR F4 hr1 rfl (T.glo "_law_shown") (T.keep "_law_shown") pass0 (pa_cons (pv 0) pa_nil)))
      (pss_cons (ps_if (pt_not (pt_val (pe_callR F1 hr1 rfl (T.glo "_law_truth") (T.keep "_law_truth") pass0 (pa_cons (pe_callR F2 hr1 rfl (T.glo "settled") (T.keep "settled") pass0 (pa_cons (pv 1) (pa_cons (pv 3) (pa_cons (pv 2) pa_nil)))) (pa_cons (pe_callR F3 hr rfl (T.glo "_law_is_settled") (T.keep "_law_is_settled") pass0 (pa_cons (pv 0) pa_nil)) pa_nil))))) (pss_one (ps_ret pe_bl)) pss_nil)
      (pss_cons (ps_if (pt_not (pt_val (pe_callR F1 hr1 rfl (T.glo "_law_truth") (T.keep "_law_truth") pass0 (pa_cons (pe_callR F2 hr1 rfl (T.glo "settled") (T.keep "settled") pass0 (pa_cons pe_non (pa_cons (pv 3) (pa_cons (pv 2) pa_nil)))) (pa_cons pe_bl pa_nil))))) (pss_one (ps_ret pe_bl)) pss_nil)
      (pss_cons (ps_if (pt_not (pt_val (pe_callR F1 hr1 rfl (T.glo "_law_truth") (T.keep "_law_truth") pass0 (pa_cons (pe_callR F2 hr1 rfl (T.glo "settled") (T.keep "settled") pass0 (pa_cons (pv 1) (pa_cons pe_non (pa_cons (pv 2) pa_nil)))) (pa_cons pe_bl pa_nil))))) (pss_one (ps_ret pe_bl)) pss_nil)
      (pss_cons (ps_if (pt_not (pt_val (pe_callR F1 hr1 rfl (T.glo "_law_truth") (T.keep "_law_truth") pass0 (pa_cons (pe_callN0 F5 hr1 rfl (T.glo "settled") (T.keep "settled") hb pass0 (pk_cons (pv 1) (pk_cons (pe_op op_add (pv 1) (pv 2)) (pk_cons (pv 2) pk_nil)))) (pa_cons pe_bl pa_nil))))) (pss_one (ps_ret pe_bl)) pss_nil)
      (pss_one (ps_ret (pe_callR F1 hr1 rfl (T.glo "_law_truth") (T.keep "_law_truth") pass0 (pa_cons (pe_callR F2 hr1 rfl (T.glo "settled") (T.keep "settled") pass0 (pa_cons (pv 1) (pa_cons (pe_op op_sub (pe_op op_add (pv 1) (pv 2)) pe_int) (pa_cons (pv 2) pa_nil)))) (pa_cons pe_bl pa_nil))))))))))), ?_⟩
    refine ⟨_, rfl, d, _, rfl, hW.g .reading, ?_⟩
    refine ⟨_, rfl, d, _, rfl, hW.g .gap, ?_⟩
    refine ⟨_, rfl, d, W, rfl, hW, ?_⟩
    have t0 : setl (some W.reading) (some W.shown) W.gap = W.isSet := rfl
    have e1 : decide (setl (some W.reading) (some W.shown) W.gap = W.isSet) = true := decide_eq_true rfl
    refine ⟨_, rfl, _, rfl, _, rfl, some W.reading, some W.shown, W.gap, rfl, _, rfl, d, W, rfl, hW, _, _, rfl, _, rfl, ?_⟩
    rw [e1]
    refine iteF ⟨_, rfl, _, rfl, none, some W.shown, W.gap, rfl, _, _, rfl, _, rfl, iteF ?_⟩
    refine ⟨_, rfl, _, rfl, some W.reading, none, W.gap, rfl, _, _, rfl, _, rfl, iteF ?_⟩
    refine ⟨_, rfl, _, rfl, _, rfl, _, _, rfl, rfl, _, rfl, rfl, rfl, some W.reading, some (W.reading + W.gap), W.gap, rfl, _, _, rfl, _, rfl, ?_⟩
    have e2 : setl (some W.reading) (some (W.reading + W.gap)) W.gap = true := decide_eq_true (by omega)
    rw [e2]
    refine iteF ⟨_, rfl, _, rfl, _, rfl, _, _, rfl, rfl, _, _, rfl, rfl, _, rfl, some W.reading, some (W.reading + W.gap - 1), W.gap, rfl, _, _, rfl, ?_⟩
    have e3 : setl (some W.reading) (some (W.reading + W.gap - 1)) W.gap = false := decide_eq_false (by omega)
    rw [e3]
    exact k
end
end K13

set_option Elab.async false
set_option linter.all false
set_option maxRecDepth 100000
set_option maxHeartbeats 4000000
/-! the taking of a note -/
namespace K13
open PySem PySem.Spec PyProof.Rows L2 SX
section
variable {w : World} {K : PySem.W.Frag} {mg : Str → Option Value} {base : Heap} {k : Nat} {N ps : List Str} {sp : Sp}

/-- the two requests -/
def ReqsAt (K : PySem.W.Frag) (H : Hp) (rl : Addr) (gs1 gs2 : List (Str × Str)) : Prop := ∃ r1 r2, H rl = some (.lst [.ref r1, .ref r2]) ∧ ReqAt K H r1 gs1 ∧ ReqAt K H r2 gs2
theorem ReqsAt.mono {H H' : Hp} {rl : Addr} {gs1 gs2 : List (Str × Str)} (s : Same H H') (h : ReqsAt K H rl gs1 gs2) : ReqsAt K H' rl gs1 gs2 := let ⟨r1, r2, a, b, c⟩ := h; ⟨r1, r2, s _ _ a, b.mono s, c.mono s⟩
/-- a request that may be checked -/
def RqP (K : PySem.W.Frag) (H : Hp) (v : V) (q : List (Str × Str) × Bool) : Prop := ∃ r, v = .ref r ∧ ReqAt K H r q.1 ∧ GOk q.1 q.2
/-- what a check told -/
def CdP (K : PySem.W.Frag) (H0 : Hp) (D : Addr) (nm : Mk0) (ch : Option Int) (H : Hp) (v : V) (q : List (Str × Str) × Bool) : Prop := ∃ c, v = .ref c ∧ CondAt K (Off [D] (New H0 H)) c q.2 nm ch
theorem off_new_mono {H0 H H' : Hp} {D : Addr} (s : Same H H') : Same (Off [D] (New H0 H)) (Off [D] (New H0 H')) := fun a o e => off_at (of_off e).1 (new_mono s a o (of_off e).2)
theorem off_new_upd {H0 H : Hp} {D : Addr} {o' : HO} : Same (Off [D] (New H0 H)) (Off [D] (New H0 (upd H D o'))) := fun a o e => by
  obtain ⟨n, e2⟩ := of_off e
  obtain ⟨e3, e4⟩ := of_new e2
  refine off_at n (new_at e3 ?_)
  rw [upd_ne (fun z => n (by rw [z]; exact List.mem_singleton.mpr rfl))]
  exact e4
theorem new_off_new {H0 H3 H4 : Hp} {D : Addr} {o' : HO} (s : Same H0 H3) (hD : H3 D = some o') : Same (New H3 H4) (Off [D] (New H0 H4)) := fun a o e => by
  obtain ⟨e3, e4⟩ := of_new e
  exact off_at (fun m => by rw [List.mem_singleton.mp m, hD] at e3; cases e3) (new_at (s.free e3) e4)
def RdSm (W : Wd) : Prop := W.reading.natAbs < 1000000
theorem note_rd {W : Wd} (h : RdSm W) : RdOk W.note.kn := by
  intro i e
  have e : (if W.isSet = true then some W.reading else none) = some i := e
  by_cases hs : W.isSet = true
  · rw [if_pos hs] at e
    rw [← Option.some.inj e]
    exact h
  · rw [if_neg hs] at e
    cases e
def spNote (K : PySem.W.Frag) : Sp := fun vs H Q _ => ∃ d rl W gs1 gs2, vs = [.ref d, .ref rl] ∧ WAt H d W ∧ WOk W ∧ WSmall W ∧ RdSm W ∧ ReqsAt K H rl gs1 gs2 ∧ GOk gs1 false ∧ GOk gs2 true ∧ ∀ v H', Same H H' → NoteAt K (New H H') v W.note → Q v H'
theorem sc_note : FnScope ["_law_world_here", "_law_requests", "_law_tag_here", "_law_known", "_law_held", "_law_request"] ["_law_world_here", "_law_requests"] (defScope d_law_note.st) := ⟨rfl, rfl, rfl, by decide +kernel, rfl, by decide +kernel, by decide +kernel⟩
theorem r_note (T : Tx K mg) : FnR PP w K mg base CX0 11 (gA K "_law_note") (spNote K) := by
  have F1 : FnR PP w K mg base CX0 4 (gA K "_law_tag") (spTag K) := r_tag T
  have F2 : FnR PP w K mg base CX0 2 (gA K "_law_is_settled") spIsSet := r_isset T
  have F3 : FnR PP w K mg base CX0 10 (gA K "checking") (spCheck K) := r_Check T
  have F4 : FnR PP w K mg base CX0 8 (cmA K "Conditions" "of") (spOf K) := r_Of T
  refine fnr_of (d := d_law_note) T 27 rfl sc_note (fun _ _ _ _ _ _ us hl => match us, hl with | [_, _], _ => rfl) (fun vs H Q E h => ?_) (fun cdv A outer s H vs Q E hr h => ?_)
  · obtain ⟨_, _, _, _, _, rfl, _⟩ := h
    rfl
  · obtain ⟨d, rl, W, gs1, gs2, rfl, hW, ok, sm, rd, hq, g1, g2, k⟩ := h
    have hu := unitsOk hr
    refine ⟨_, pss_cons (ps_set (i := 2) sc_note.nd rfl (Or.inr rfl) (pe_callR F1 (hr.mono (by decide)) rfl (T.glo "_law_tag") (T.keep "_law_tag") pass0 (pa_cons (pv 0) pa_nil)))
      (pss_cons (ps_set (i := 3) sc_note.nd rfl (Or.inr rfl) pe_non)
      (pss_cons (ps_if (pt_val (pe_callR F2 (hr.mono (by decide)) rfl (T.glo "_law_is_settled") (T.keep "_law_is_settled") pass0 (pa_cons (pv 0) pa_nil))) (pss_one (ps_set (i := 3) sc_note.nd rfl (Or.inr rfl) (pe_dget hu (pv 0) pe_str (fun _ _ => rfl)))) pss_nil)
      (pss_cons (ps_setLc (i := 4) (own := [("_law_request", 5)]) (g := gName 5) (tt := tYes) rfl sc_note.nd rfl rfl (sw_true rfl rfl rfl (by decide +kernel)) (pi_list (pv 1)) (blkOk_by (own := [("_law_request", 5)]) (N := ["_law_world_here", "_law_requests", "_law_tag_here", "_law_known", "_law_held", "_law_request"]) (sc := defScope d_law_note.st) (by decide +kernel))
          (fun _ _ _ _ _ => pg_name (i := 5) sc_note.nd rfl (Or.inl rfl)) (fun _ _ _ _ _ => pts_nil) (fun _ _ _ _ _ => ClX.pe_cmeth (pe_gr (by rfl) (T.glo "Conditions")) (T.cread "Conditions") T.cmOf F4 (hr.mono (by decide)) pass0 (pa_cons (pe_callR F3 (hr.mono (by decide)) rfl (T.glo "checking") (T.keep "checking") pass0 (pa_cons (pv 5) (pa_cons (pv 2) (pa_cons (pv 3) pa_nil)))) pa_nil)))
      (pss_one (ps_ret (pe_tup (pa_cons (pe_dget hu (pv 0) pe_str (fun _ _ => rfl)) (pa_cons (pe_dget hu (pv 0) pe_str (fun _ _ => rfl)) (pa_cons (pv 2) (pa_cons (pv 3) (pa_cons (pv 4) pa_nil))))))))))), ?_⟩
    refine ⟨_, rfl, d, W, rfl, hW, ok, sm, fun mv H1 s1 hmv => ?_⟩
    have w1 := hW.mono s1
    dsimp only [gName, tAsg, tSeq, tC]
    refine seq_by (t := tIfS _ _ _) (fun σ' H' => σ' = [some (.ref d), some (.ref rl), some mv, some (oV W.note.kn), none, none] ∧ H' = H1) (fun D' k' => ?_) (fun σ2 H2 h2 => ?_)
    · refine ⟨_, rfl, d, W, rfl, w1, W.isSet, rfl, ?_⟩
      cases hs : W.isSet with
      | true =>
        refine iteT ⟨_, rfl, d, _, rfl, w1.g .reading, k' _ _ ⟨?_, rfl⟩⟩
        have e : W.note.kn = some W.reading := by
          show (if W.isSet = true then some W.reading else none) = _
          rw [hs]
          rfl
        rw [e]
        rfl
      | false =>
        refine iteF (k' _ _ ⟨?_, rfl⟩)
        have e : W.note.kn = none := by
          show (if W.isSet = true then some W.reading else none) = _
          rw [hs]
          rfl
        rw [e]
        rfl
    · obtain ⟨rfl, rfl⟩ := h2
      have hmk := tag_ok ok sm
      have hrd := note_rd rd
      obtain ⟨r1, r2, hrl, hq1, hq2⟩ := hq
      have m1 : MvAt K H2 mv W.tag := hmv.mono (new_sub _ _)
      refine ⟨_, rfl, rl, rfl, ⟨_, SqL.of (s1 _ _ hrl)⟩, fun D nD => lc_al (K := K) (a := rl) (RqP K) (CdP K H D W.tag (chOf W.tag W.note.kn)) (fun _ => true) (gs := [(gs1, false), (gs2, true)]) nD (s1 _ _ hrl)
        (.cons ⟨r1, rfl, hq1.mono s1, g1⟩ (.cons ⟨r2, rfl, hq2.mono s1, g2⟩ .nil)) (by show 2 ≤ 1000; decide) (fun _ _ v q s ⟨r, e, a, b⟩ => ⟨r, e, a.mono s, b⟩) (fun _ _ v q s ⟨c, e, a⟩ => ⟨c, e, a.mono (off_new_mono s)⟩) (fun _ v q _ _ ⟨c, e, a⟩ _ => ⟨c, e, a.mono off_new_upd⟩)
        (fun t q H3 Qy Qn ht hq s3 hD hy hn => ?_) (fun H3 out s3 hD al => ?_)⟩
      · obtain ⟨r, rfl, ha, gq⟩ := ht
        obtain ⟨xs, hD⟩ := hD
        refine ⟨rfl, ?_⟩
        dsimp only [tYes]
        rw [if_pos rfl]
        refine ⟨rfl, _, rfl, _, rfl, _, rfl, r, mv, q.1, W.tag, W.note.kn, rfl, ha, gq.ok, gq.len, m1.mono s3, hmk, hrd, fun r' H4 s4 hr' => ?_⟩
        refine ⟨r', _, q.2, W.tag, chOf W.tag W.note.kn, rfl, hr'.mono (new_sub _ _), asks_check gq hmk hrd, fun p H5 s5 hp => ?_⟩
        exact hy rfl H5 _ (s4.trans s5) ⟨p, rfl, hp.mono (new_off_new (s1.trans (s3.trans s4)) (s4 _ _ hD))⟩
      · have al' : Al (CdP K H D W.tag (chOf W.tag W.note.kn) H3) out [(gs1, false), (gs2, true)] := al
        cases al' with
        | @cons a1 _ as1 _ x1 al1 =>
          cases al1 with
          | @cons a2 _ as2 _ x2 al2 =>
            cases al2
            obtain ⟨c1, rfl, y1⟩ := x1
            obtain ⟨c2, rfl, y2⟩ := x2
            have w3 := w1.mono s3
            refine ⟨_, rfl, d, _, rfl, w3.g .version, _, rfl, d, _, rfl, w3.g .epoch, _, rfl, _, rfl, _, rfl, (by show 5 ≤ sizeLine; rw [sizeLine_eq]; decide), fun tp ntp => ?_⟩
            have s4 : Same H3 (upd H3 tp (.tup [W.get .version, W.get .epoch, mv, oV W.note.kn, .ref D])) := same_upd ntp
            have sA := s1.trans s3
            refine k (.ref tp) _ (sA.trans s4) ⟨tp, mv, D, c1, c2, rfl, new_at (sA.free ntp) upd_same, ?_, ?_, ?_, ?_⟩
            · exact hmv.mono (new_mono (s3.trans s4))
            · refine new_at (s1.free nD) ?_
              exact s4 _ _ hD
            · exact (y1.mono (off_sub _ _)).mono (new_mono s4)
            · exact (y2.mono (off_sub _ _)).mono (new_mono s4)
end
end K13

set_option Elab.async false
set_option linter.all false
set_option maxRecDepth 100000
set_option maxHeartbeats 4000000
/-! the checks -/
namespace K13
open PySem PySem.Spec PyProof.Rows L2 SX
section
variable {w : World} {K : PySem.W.Frag} {mg : Str → Option Value} {base : Heap} {k : Nat} {N ps : List Str} {sp : Sp}

theorem tag_mode {W0 W : Wd} (h : W.md = W0.md) (n : W0.tag ≠ none) : W.tag ≠ none := by
  unfold Wd.tag at n ⊢
  rw [h]
  cases hm : W0.md with
  | strong => exact fun z => nomatch z
  | weak => exact fun z => nomatch z
  | none =>
    rw [hm] at n
    exact absurd rfl n
/-- a note that was taken of this world -/
def Took (W : Wd) (n : Nt) : Prop := ∃ W0, n = W0.note ∧ WOk W0 ∧ WSmall W0 ∧ RdSm W0 ∧ Goes W0 W
def spChecks (K : PySem.W.Frag) : Sp := fun vs H Q _ => ∃ d v rl W n gs1 gs2, vs = [.ref d, v, .ref rl] ∧ WAt H d W ∧ WOk W ∧ WSmall W ∧ RdSm W ∧ NoteAt K H v n ∧ Took W n ∧ ReqsAt K H rl gs1 gs2 ∧ GOk gs1 false ∧ GOk gs2 true ∧ ∀ H', Same H H' → Q (.bl true) H'
abbrev nsC : List Str := ["_law_world_here", "_law_note_here", "_law_requests", "_law_number", "_law_turn", "_law_current", "_law_k", "_law_due_here", "_law_fresh"]
theorem sc_checks : FnScope nsC ["_law_world_here", "_law_note_here", "_law_requests"] (defScope d_law_checks.st) := ⟨rfl, rfl, rfl, by decide +kernel, rfl, by decide +kernel, by decide +kernel⟩
theorem r_checks (T : Tx K mg) : FnR PP w K mg base CX0 11 (gA K "_law_checks") (spChecks K) := by
  have F1 : FnR PP w K mg base CX0 4 (gA K "_law_tag") (spTag K) := r_tag T
  have F2 : FnR PP w K mg base CX0 2 (gA K "_law_is_settled") spIsSet := r_isset T
  have F3 : FnR PP w K mg base CX0 10 (gA K "checking") (spCheck K) := r_Check T
  have F4 : FnR PP w K mg base CX0 8 (cmA K "Conditions" "of") (spOf K) := r_Of T
  have F5 : FnR PP w K mg base CX0 1 (mA K "Current" "__init__") (spCInit K) := r_CInit T
  have F6 : FnR PP w K mg base CX0 2 (gA K "_law_due") (spDue K) := r_due T
  have F7 : FnR PP w K mg base CX0 3 (mA K "Conditions" "__call__") (spAsk K) := r_Ask T
  refine fnr_of (d := d_law_checks) T 30 rfl sc_checks (fun _ _ _ _ _ _ us hl => match us, hl with | [_, _, _], _ => rfl) (fun vs H Q E h => ?_) (fun cdv A outer s H vs Q E hr h => ?_)
  · obtain ⟨_, _, _, _, _, _, _, rfl, _⟩ := h
    rfl
  · obtain ⟨d, v, rl, W, n, gs1, gs2, rfl, hW, ok, sm, rd, hn, tk, hq, g1, g2, k⟩ := h
    have hu := unitsOk hr
    refine ⟨_, pss_cons (ps_set (i := 3) sc_checks.nd rfl (Or.inl rfl) (pe_dget hu (pv 0) pe_str (fun _ _ => rfl)))
      (pss_cons (ps_for PassesOwn.never rfl (pi_range1 (by rfl) (T.free "range") (pa_cons pe_int pa_nil)) (pg_name (i := 4) sc_checks.nd rfl (Or.inl rfl))
        (pss_cons (ps_if (PW.pt (pw_and (pt_cmpR op_eq (pv 4) pe_int (nomark _)) (pw_and1 (pt_not (pt_val (pe_callR F2 (hr.mono (by decide)) rfl (T.glo "_law_is_settled") (T.keep "_law_is_settled") pass0 (pa_cons (pv 0) pa_nil))))))) (pss_one (ps_set (i := 3) sc_checks.nd rfl (Or.inl rfl) pe_non)) pss_nil)
        (pss_cons (ps_set (i := 5) sc_checks.nd rfl (Or.inl rfl) pe_non)
        (pss_cons (ps_if (pt_val (pe_dget hu (pv 0) pe_str (fun _ _ => rfl))) (pss_one (ps_set (i := 5) sc_checks.nd rfl (Or.inl rfl) (StX.pe_makeR (T.mkr "Current") F5 (hr.mono (by decide)) rfl (T.glo "Current") pass0 (pa_cons (pe_callR F1 (hr.mono (by decide)) rfl (T.glo "_law_tag") (T.keep "_law_tag") pass0 (pa_cons (pv 0) pa_nil)) (pa_cons (pv 3) pa_nil))))) pss_nil)
        (pss_one (ps_for PassesOwn.never rfl (pi_range1 (by rfl) (T.free "range") (pa_cons pe_int pa_nil)) (pg_name (i := 6) sc_checks.nd rfl (Or.inl rfl))
          (pss_cons (ps_set (i := 7) sc_checks.nd rfl (Or.inl rfl) (pe_callR F6 (hr.mono (by decide)) rfl (T.glo "_law_due") (T.keep "_law_due") pass0 (pa_cons (pv 0) (pa_cons (pv 1) (pa_cons (pv 3) (pa_cons (pv 6) pa_nil))))))
          (pss_cons (ps_if (pt_cmpR op_ne (StX.pe_callO (pe_ix ix_list (pe_ix ix_tup (pv 1) pe_int (fun _ _ => rfl)) (pv 6) (fun _ _ => rfl)) T.callO F7 (hr.mono (by decide)) pass0 (pa_cons (pv 5) pa_nil)) (pv 7) (nomark _)) (pss_one (ps_ret pe_bl)) pss_nil)
          (pss_cons (ps_set (i := 8) sc_checks.nd rfl (Or.inl rfl) (ClX.pe_cmeth (pe_gr (by rfl) (T.glo "Conditions")) (T.cread "Conditions") T.cmOf F4 (hr.mono (by decide)) pass0 (pa_cons (pe_callR F3 hr rfl (T.glo "checking") (T.keep "checking") pass0 (pa_cons (pe_ix ix_list (pv 2) (pv 6) (fun _ _ => rfl)) (pa_cons (pe_ix ix_tup (pv 1) pe_int (fun _ _ => rfl)) (pa_cons (pe_ix ix_tup (pv 1) pe_int (fun _ _ => rfl)) pa_nil)))) pa_nil)))
          (pss_one (ps_if (pt_cmpR op_ne (StX.pe_callO (pv 8) T.callO F7 (hr.mono (by decide)) pass0 (pa_cons (pv 5) pa_nil)) (pv 7) (nomark _)) (pss_one (ps_ret pe_bl)) pss_nil)))))))))))
      (pss_one (ps_ret pe_bl))), ?_⟩
    obtain ⟨W0, en, ok0, sm0, rd0, go⟩ := tk
    have hn' := hn
    obtain ⟨tp, mv, hl, c1, c2, ev, htp, hmv, hhl, hc1, hc2⟩ := hn'
    have hq' := hq
    obtain ⟨r1, r2, hrl, hr1, hr2⟩ := hq'
    have hmk : MkOk n.tg := by rw [en]; exact tag_ok ok0 sm0
    have hrd : RdOk n.kn := by rw [en]; exact note_rd rd0
    refine ⟨_, rfl, d, _, rfl, hW.g .reading, ?_⟩
    refine ⟨2, rfl, by decide, by decide, for_range (n := 2) (fun i σ' H' => ∃ num a b c e f, σ' = [some (.ref d), some v, some (.ref rl), some (oV num), a, b, c, e, f] ∧ (num = none ∨ num = some W.reading) ∧ Same H H')
      ⟨some W.reading, none, none, none, none, none, rfl, .inr rfl, Same.refl _⟩ ?_ ?_⟩
    · rintro i σ H1 hi ⟨num, a, b, c, e, f, rfl, hnum, s1⟩
      dsimp only [gName]
      refine seq_by (t := tIfS _ _ _) (fun σ' H' => ∃ num a b c e f, σ' = [some (.ref d), some v, some (.ref rl), some (oV num), a, b, c, e, f] ∧ (num = none ∨ num = some W.reading) ∧ H' = H1) (fun D' k' => ?_) (fun σ2 H2 h2 => ?_)
      · refine ⟨_, rfl, rfl, _, rfl, iteAny ⟨_, rfl, d, W, rfl, hW.mono s1, _, rfl, iteAny ?_ ?_⟩ (iteF ?_)⟩
        · exact k' _ _ ⟨none, _, _, _, _, _, rfl, .inl rfl, rfl⟩
        · exact k' _ _ ⟨num, _, _, _, _, _, rfl, hnum, rfl⟩
        · exact k' _ _ ⟨num, _, _, _, _, _, rfl, hnum, rfl⟩
      · obtain ⟨num, a, b, c, e, f, rfl, hnum, rfl⟩ := h2
        refine seq_by (t := tAsg _ _) (fun σ' H' => σ' = [some (.ref d), some v, some (.ref rl), some (oV num), a, some .non, c, e, f] ∧ H' = H2) (fun D' k' => k' _ _ ⟨rfl, rfl⟩) (fun σ3 H3 h3 => ?_)
        obtain ⟨rfl, rfl⟩ := h3
        have w1 := hW.mono s1
        refine seq_by (t := tIfS _ _ _) (fun σ' H' => ∃ cv, σ' = [some (.ref d), some v, some (.ref rl), some (oV num), a, some cv, c, e, f] ∧ CuAt K H' cv (W.cur num) ∧ Same H3 H') (fun D' k' => ?_) (fun σ4 H4 h4 => ?_)
        · refine ⟨_, rfl, d, _, rfl, w1.g .there, W.there, rfl, ?_⟩
          cases hth : W.there with
          | false =>
            have ec : W.cur num = none := by unfold Wd.cur; rw [hth]; rfl
            refine iteF (k' _ _ ⟨.non, rfl, ?_, Same.refl _⟩)
            rw [ec]
            rfl
          | true =>
            have ec : W.cur num = some (W.tag, num) := by unfold Wd.cur; rw [hth]; rfl
            refine iteT ⟨_, rfl, d, W, rfl, w1, ok, sm, fun mv' H5 s5 hmv' => ⟨_, rfl, fun x dx nx nd ne => ⟨x, dx, mv', oV num, rfl, upd_same, fun H6 k6 h6 => ⟨rfl, k' _ _ ⟨.ref x, rfl, ?_, s5.trans (made_same nx nd k6)⟩⟩⟩⟩⟩
            rw [ec]
            exact ⟨x, mv', rfl, ⟨dx, h6⟩, (hmv'.mono (new_sub _ _)).mono (made_same nx nd k6)⟩
        · obtain ⟨cv, rfl, hcv, s4⟩ := h4
          refine ⟨2, rfl, by decide, by decide, for_range (n := 2) (fun j σ' H' => ∃ c e f, σ' = [some (.ref d), some v, some (.ref rl), some (oV num), a, some cv, c, e, f] ∧ Same H4 H')
            ⟨c, e, f, rfl, Same.refl _⟩ ?_ ?_⟩
          · rintro j σ H5 hj ⟨c, e, f, rfl, s5⟩
            have sA : Same H H5 := s1.trans (s4.trans s5)
            obtain ⟨st, cd, r, gsq, e1, e2, e3, hc, hrq, hg⟩ : ∃ st cd r gsq, (0 + ((j : Nat) : Int)) = stI st ∧ atI [V.ref c1, V.ref c2] (0 + ((j : Nat) : Int)) = some (.ref cd) ∧ atI [V.ref r1, V.ref r2] (0 + ((j : Nat) : Int)) = some (.ref r) ∧ CondAt K H cd st n.tg (chOf n.tg n.kn) ∧ ReqAt K H r gsq ∧ GOk gsq st := by
              match j, hj with
              | 0, _ => exact ⟨false, c1, r1, gs1, rfl, rfl, rfl, hc1, hr1, g1⟩
              | 1, _ => exact ⟨true, c2, r2, gs2, rfl, rfl, rfl, hc2, hr2, g2⟩
            have hdue : ans st n.tg (chOf n.tg n.kn) (W.cur num) = W.due n num st := by
              rw [en]
              exact ans_due ok0 go num hnum st
            have hno : n.tg ≠ none → ∀ c, W.cur num = some c → c.1 ≠ none := fun h1 c h2 => by
              unfold Wd.cur at h2
              by_cases hth : W.there = true
              · rw [if_pos hth] at h2
                rw [← Option.some.inj h2]
                rw [en] at h1
                exact tag_mode go.fix.1 h1
              · rw [if_neg hth] at h2
                cases h2
            dsimp only [gName]
            refine seq_by (t := tAsg _ _) (fun σ' H' => σ' = [some (.ref d), some v, some (.ref rl), some (oV num), a, some cv, some (.int (0 + ((j : Nat) : Int))), some (.str (W.due n num st)), f] ∧ Same H5 H') (fun D' k' => ?_) (fun σ6 H6 h6 => ?_)
            · refine ⟨_, rfl, _, rfl, _, rfl, _, rfl, d, v, W, n, num, st, ?_, hW.mono sA, hn.mono sA, fun H6 s6 => k' _ _ ⟨rfl, s6⟩⟩
              rw [e1]
            · obtain ⟨rfl, s6⟩ := h6
              have sB := sA.trans s6
              obtain ⟨dx, a', b', e', hcd, x1, x2⟩ := hc.mono sB
              subst ev
              refine seq_by (t := tIfS _ _ _) (fun σ' H' => σ' = [some (.ref d), some (.ref tp), some (.ref rl), some (oV num), a, some cv, some (.int (0 + ((j : Nat) : Int))), some (.str (W.due n num st)), f] ∧ Same H6 H') (fun D' k' => ?_) (fun σ7 H7 h7 => ?_)
              · refine ⟨_, rfl, tp, _, _, _, rfl, rfl, SqT.of (sB _ _ htp), atI_nat (j := 4) rfl, _, rfl, hl, _, _, _, rfl, rfl, SqL.of (sB _ _ hhl), e2, cd, rfl, _, rfl, .inr ⟨_, _, hcd⟩, ?_⟩
                refine ⟨cd, cv, st, n.tg, chOf n.tg n.kn, W.cur num, rfl, ⟨dx, a', b', e', hcd, x1, x2⟩, hcv.mono (s5.trans s6), hno, fun H7 s7 => ?_⟩
                refine ⟨_, rfl, rfl, _, rfl, iteN ?_ (k' _ _ ⟨rfl, s7⟩)⟩
                rw [hdue, decide_eq_true rfl]
                rfl
              · obtain ⟨rfl, s7⟩ := h7
                have sC := sB.trans s7
                refine ⟨rfl, _, rfl, _, rfl, rl, _, _, _, rfl, rfl, SqL.of (sC _ _ hrl), e3, _, rfl, tp, _, _, _, rfl, rfl, SqT.of (sC _ _ htp), atI_nat (j := 2) rfl, _, rfl, tp, _, _, _, rfl, rfl, SqT.of (sC _ _ htp), atI_nat (j := 3) rfl, ?_⟩
                refine ⟨r, mv, gsq, n.tg, n.kn, rfl, hrq.mono sC, hg.ok, hg.len, hmv.mono sC, hmk, hrd, fun r' H8 s8 hr' => ?_⟩
                refine ⟨r', _, st, n.tg, chOf n.tg n.kn, rfl, hr'.mono (new_sub _ _), asks_check hg hmk hrd, fun p H9 s9 hp => ?_⟩
                have hp' := hp.mono (new_sub _ _)
                obtain ⟨dx9, a9, b9, e9, hcd9, y1, y2⟩ := hp'
                refine ⟨_, rfl, p, rfl, _, rfl, .inr ⟨_, _, hcd9⟩, ?_⟩
                refine ⟨p, cv, st, n.tg, chOf n.tg n.kn, W.cur num, rfl, ⟨dx9, a9, b9, e9, hcd9, y1, y2⟩, hcv.mono (s5.trans (s6.trans (s7.trans (s8.trans s9)))), hno, fun HA sA' => ?_⟩
                refine ⟨_, rfl, rfl, _, rfl, iteN ?_ ⟨_, _, _, rfl, s5.trans (s6.trans (s7.trans (s8.trans (s9.trans sA'))))⟩⟩
                rw [hdue, decide_eq_true rfl]
                rfl
          · rintro σ H5 ⟨c, e, f, rfl, s5⟩
            exact ⟨num, _, _, _, _, _, rfl, hnum, s1.trans (s4.trans s5)⟩
    · rintro σ H1 ⟨num, a, b, c, e, f, rfl, hnum, s1⟩
      exact k H1 s1
end
end K13

set_option Elab.async false
set_option linter.all false
set_option maxRecDepth 100000
set_option maxHeartbeats 4000000
/-! the drawn fields -/
namespace K13
open PySem PySem.Spec PyProof.Rows L2 SX
def MENU : List (Str × Str) := [("if-no-mark", "*"), ("range", "0-4"), ("keep", "age=3"), ("if-part", "\"a\""), ("if-changed", "999999"), ("x", "if-no-mark"), ("if-part", "0")]
theorem new_kp {H H' H'' : Hp} {b : Addr} {o : HO} (hb : H b = some o) (k : Kp b H' H'') : Same (New H H') (New H H'') := fun a u e => new_at (of_new e).1 (k a u (fun z => by have := (of_new e).1; rw [z, hb] at this; cases this) (of_new e).2)
theorem prs_newupd {H H' : Hp} {L : Addr} {xs ys : List V} {ts : List V} {gs : List (Str × Str)} (h : Prs (New H H') ts gs) (hL : H' L = some (.lst xs)) : Prs (New H (upd H' L (.lst ys))) ts gs :=
  h.imp fun v q ⟨t, e, f⟩ => ⟨t, e, new_at (of_new f).1 (by rw [upd_ne (ne_of (of_new f).2 hL (by intro z; cases z))]; exact (of_new f).2)⟩
section
variable {w : World} {K : PySem.W.Frag} {mg : Str → Option Value} {base : Heap} {k : Nat} {N ps : List Str} {sp : Sp}
def spFields : Sp := fun vs H Q _ => ∃ b, vs = [.ref b] ∧ ∃ cl, BagAt H b cl ∧ ∀ l ts gs H', Kp b H H' → BagAt H' b cl → H l = none → H' l = some (.lst ts) → Prs (New H H') ts gs → gs.length ≤ 7 → (∀ q ∈ gs, q ∈ MENU) → Q (.ref l) H'
theorem sc_fields : FnScope ["_law_bag_here", "_law_menu", "_law_fields_here", "_law_pair"] ["_law_bag_here"] (defScope d_law_fields.st) := ⟨rfl, rfl, rfl, by decide +kernel, rfl, by decide +kernel, by decide +kernel⟩
theorem len2 : 2 ≤ sizeLine := by rw [sizeLine_eq]; decide
theorem r_fields (T : Tx K mg) : FnR PP w K mg base CX0 2 (gA K "_law_fields") spFields := by
  have F1 : FnR PP w K mg base CX0 1 (gA K "_law_take") spTake := r_take T
  refine fnr_of (d := d_law_fields) T 32 rfl sc_fields (fun _ _ _ _ _ _ us hl => match us, hl with | [_], _ => rfl) (fun vs H Q E h => ?_) (fun cdv A outer s H vs Q E hr h => ?_)
  · obtain ⟨_, rfl, _⟩ := h
    rfl
  · obtain ⟨b, rfl, cl, hb, k⟩ := h
    refine ⟨_, pss_cons (ps_set (i := 1) sc_fields.nd rfl (Or.inl rfl) (pe_lst (pa_cons (pe_tup (pa_cons pe_str (pa_cons pe_str pa_nil))) (pa_cons (pe_tup (pa_cons pe_str (pa_cons pe_str pa_nil))) (pa_cons (pe_tup (pa_cons pe_str (pa_cons pe_str pa_nil))) (pa_cons (pe_tup (pa_cons pe_str (pa_cons pe_str pa_nil))) pa_nil))))))
      (pss_cons (ps_set (i := 1) sc_fields.nd rfl (Or.inl rfl) (pe_op op_cat (pv 1) (pe_lst (pa_cons (pe_tup (pa_cons pe_str (pa_cons pe_str pa_nil))) (pa_cons (pe_tup (pa_cons pe_str (pa_cons pe_str pa_nil))) (pa_cons (pe_tup (pa_cons pe_str (pa_cons pe_str pa_nil))) pa_nil))))))
      (pss_cons (ps_set (i := 2) sc_fields.nd rfl (Or.inl rfl) (pe_lst pa_nil))
      (pss_cons (ps_for PassesOwn.never rfl (pi_list (pv 1)) (pg_name (i := 3) sc_fields.nd rfl (Or.inl rfl))
        (pss_one (ps_if (pt_cmpR op_eq (pe_callR F1 hr rfl (T.glo "_law_take") (T.keep "_law_take") pass0 (pa_cons (pv 0) (pa_cons pe_int pa_nil))) pe_int (nomark _))
          (pss_one (ps_expr (pe_bm PySem.F.plainAttrs_list PySem.F.slot_list_insert PySem.F.type_list_insert mt_insert (pv 2) (pa_cons (pe_callR F1 hr rfl (T.glo "_law_take") (T.keep "_law_take") pass0 (pa_cons (pv 0) (pa_cons (pe_op op_add (pe_callB call_len_seq (by rfl) (T.free "len") PySem.boot_len (pa_cons (pv 2) pa_nil)) pe_int) pa_nil))) (pa_cons (pv 3) pa_nil))))) pss_nil)))
      (pss_one (ps_ret (pv 2)))))), ?_⟩
    obtain ⟨xb, hxb⟩ := hb.has
    refine ⟨len2, fun t1 n1 => ⟨len2, fun t2 n2 => ⟨len2, fun t3 n3 => ⟨len2, fun t4 n4 => ⟨(by show 4 ≤ sizeLine; rw [sizeLine_eq]; decide), fun l1 m1 => ?_⟩⟩⟩⟩⟩
    refine ⟨_, rfl, len2, fun t5 n5 => ⟨len2, fun t6 n6 => ⟨len2, fun t7 n7 => ⟨(by show 3 ≤ sizeLine; rw [sizeLine_eq]; decide), fun l2 m2 => ?_⟩⟩⟩⟩
    have s1 := same_upd (o := .tup [.str "if-no-mark", .str "*"]) n1
    have s2 := same_upd (o := .tup [.str "range", .str "0-4"]) n2
    have s3 := same_upd (o := .tup [.str "keep", .str "age=3"]) n3
    have s4 := same_upd (o := .tup [.str "if-part", .str "\"a\""]) n4
    have s5 := same_upd (o := .lst [.ref t1, .ref t2, .ref t3, .ref t4]) m1
    have s6 := same_upd (o := .tup [.str "if-changed", .str "999999"]) n5
    have s7 := same_upd (o := .tup [.str "x", .str "if-no-mark"]) n6
    have s8 := same_upd (o := .tup [.str "if-part", .str "0"]) n7
    have s9 := same_upd (o := .lst [.ref t5, .ref t6, .ref t7]) m2
    refine ⟨l1, l2, _, _, rfl, rfl, (s6.trans (s7.trans (s8.trans s9))) _ _ upd_same, upd_same, (by show 4 + 3 ≤ sizeLine; rw [sizeLine_eq]; decide), fun l3 m3 => ?_⟩
    have s10 := same_upd (o := .lst ([.ref t1, .ref t2, .ref t3, .ref t4] ++ [.ref t5, .ref t6, .ref t7])) m3
    refine ⟨by decide, fun L nL => ?_⟩
    have s11 := same_upd (o := .lst []) nL
    have p2 := s1.trans s2
    have p3 := p2.trans s3
    have p4 := p3.trans s4
    have p5 := p4.trans s5
    have p6 := p5.trans s6
    have p7 := p6.trans s7
    have p8 := p7.trans s8
    have p9 := p8.trans s9
    have p10 := p9.trans s10
    have p11 := p10.trans s11
    have q10 := s10.trans s11
    have q9 := s9.trans q10
    have q8 := s8.trans q9
    have q7 := s7.trans q8
    have q6 := s6.trans q7
    have q5 := s5.trans q6
    have q4 := s4.trans q5
    have q3 := s3.trans q4
    have q2 := s2.trans q3
    have hM : Prs (New H _) [.ref t1, .ref t2, .ref t3, .ref t4, .ref t5, .ref t6, .ref t7] MENU :=
      .cons ⟨t1, rfl, new_at n1 (q2 _ _ upd_same)⟩ (.cons ⟨t2, rfl, new_at (s1.free n2) (q3 _ _ upd_same)⟩ (.cons ⟨t3, rfl, new_at (p2.free n3) (q4 _ _ upd_same)⟩ (.cons ⟨t4, rfl, new_at (p3.free n4) (q5 _ _ upd_same)⟩
      (.cons ⟨t5, rfl, new_at (p5.free n5) (q7 _ _ upd_same)⟩ (.cons ⟨t6, rfl, new_at (p6.free n6) (q8 _ _ upd_same)⟩ (.cons ⟨t7, rfl, new_at (p7.free n7) (q9 _ _ upd_same)⟩ .nil))))))
    have nH : H L = none := p10.free nL
    have nbL : L ≠ b := (ne_of_none hxb nH).symm
    have nH3 : H l3 = none := p9.free m3
    have nb3 : l3 ≠ b := (ne_of_none hxb nH3).symm
    have n3L : l3 ≠ L := ne_of_none (o := .lst ([.ref t1, .ref t2, .ref t3, .ref t4] ++ [.ref t5, .ref t6, .ref t7])) (by exact upd_same) nL
    obtain ⟨xc, hxc⟩ := hb.hasC
    have ncL : cl ≠ L := ne_of_none hxc nH
    refine ⟨_, rfl, l3, rfl, ⟨_, SqL.of (s11 _ _ upd_same)⟩, for_list (xs := [.ref t1, .ref t2, .ref t3, .ref t4, .ref t5, .ref t6, .ref t7]) (fun i σ' H' => ∃ a ts gs, σ' = [some (.ref b), some (.ref l3), some (.ref L), a] ∧ Kp b H H' ∧ BagAt H' b cl ∧ H' L = some (.lst ts) ∧ Prs (New H H') ts gs ∧ gs.length ≤ i ∧ (∀ q ∈ gs, q ∈ MENU) ∧
        H' l3 = some (.lst [.ref t1, .ref t2, .ref t3, .ref t4, .ref t5, .ref t6, .ref t7]) ∧ Prs (New H H') [.ref t1, .ref t2, .ref t3, .ref t4, .ref t5, .ref t6, .ref t7] MENU)
      ⟨none, [], [], rfl, Kp.of_same p11, hb.mono p11, upd_same, .nil, Nat.le_refl 0, (fun q m => by cases m), s11 _ _ upd_same, hM⟩ (fun i σ H' _ ⟨_, _, _, _, _, _, _, _, _, _, h, _⟩ => SqL.of h) ?_ ?_⟩
    · rintro i x σ H1 hi ⟨a, ts, gs, rfl, k1, b1, hL, hts, hlen, hmem, h3, hM1⟩
      obtain ⟨q, hq, tx, rfl, htx⟩ := hM1.get hi
      have hi7 : i < 7 := (List.getElem?_eq_some_iff.mp hi).1
      have hlt : ts.length = gs.length := hts.length
      refine ⟨_, rfl, b, 2, rfl, cl, b1, by decide, by decide, fun r H2 r0 r1 k2 b2 => ⟨rfl, _, rfl, iteAny ?_ ?_⟩⟩
      · have nk := new_kp hxb k2
        have hL2 := k2 _ _ nbL hL
        refine ⟨_, rfl, .inl ⟨rfl, _, SqL.of hL2⟩, _, rfl, _, rfl, L, _, rfl, .inl (SqL.of hL2), _, _, rfl, rfl, b, ((ts.length : Nat) : Int) + 1, rfl, cl, b2, by omega, by omega, fun z H3 z0 z1 k3 b3 => ?_⟩
        have nk3 := new_kp hxb k3
        have hL3 := k3 _ _ nbL hL2
        have htx3 := nk3 _ _ (nk _ _ htx)
        refine ⟨_, rfl, L, ts, z, .ref tx, rfl, rfl, hL3, small1000 (by omega), z0, by omega, ?_⟩
        have hts3 : Prs (New H H3) ts gs := prs_mono nk3 (prs_mono nk hts)
        have e : Prs (New H H3) (ts.take z.toNat ++ [.ref tx] ++ ts.drop z.toNat) (gs.take z.toNat ++ [q] ++ gs.drop z.toNat) := ((hts3.take _).app (.one ⟨tx, rfl, htx3⟩)).app (hts3.drop _)
        refine ⟨_, ts.take z.toNat ++ [.ref tx] ++ ts.drop z.toNat, gs.take z.toNat ++ [q] ++ gs.drop z.toNat, rfl, ?_, ?_, upd_same, prs_newupd e hL3, ?_, ?_, ?_, prs_newupd (prs_mono nk3 (prs_mono nk hM1)) hL3⟩
        · refine fun c o n e => ?_
          rw [upd_ne (ne_of_none e nH)]
          exact k3 _ _ n (k2 _ _ n (k1 _ _ n e))
        · exact b3.kpn kp_upd nbL.symm ncL
        · simp only [List.length_append, List.length_take, List.length_drop, List.length_cons, List.length_nil]
          omega
        · intro p hp
          rcases List.mem_append.mp hp with hp | hp
          · rcases List.mem_append.mp hp with hp | hp
            · exact hmem p (List.mem_of_mem_take hp)
            · rw [List.mem_singleton.mp hp]
              exact List.mem_of_getElem? hq
          · exact hmem p (List.mem_of_mem_drop hp)
        · rw [upd_ne n3L]
          exact k3 _ _ nb3 (k2 _ _ nb3 h3)
      · exact ⟨_, ts, gs, rfl, k1.trans k2, b2, k2 _ _ nbL hL, prs_mono (new_kp hxb k2) hts, Nat.le_succ_of_le hlen, hmem, k2 _ _ nb3 h3, prs_mono (new_kp hxb k2) hM1⟩
    · rintro σ H1 ⟨a, ts, gs, rfl, k1, b1, hL, hts, hlen, hmem, h3, hM1⟩
      exact ⟨_, rfl, k L ts gs H1 k1 b1 nH hL hts hlen hmem⟩
end
end K13

set_option Elab.async false
set_option linter.all false
set_option maxRecDepth 100000
set_option maxHeartbeats 4000000
/-! the requests stay -/
namespace K13
open PySem PySem.Spec PyProof.Rows L2 SX
def prT (q : Str × Str) : PyData := .tuple [.str q.1, .str q.2]
theorem dp_prs {K : PySem.W.Frag} {H : Hp} : ∀ {ts : List V} {gs : List (Str × Str)}, Prs H ts gs → DpAll K H ts (gs.map prT)
  | _, _, .nil => .nil
  | _, _, .cons ⟨t, e, f⟩ r => by
    subst e
    exact .cons (.tup (SqT.of f) (.cons (.str _) (.cons (.str _) .nil))) (dp_prs r)
theorem nameok_str {z : Str} (h : NameOk z) : PyData.strOk z = true := strOk_of fun c hc => by
  have h2 := h.2.2.2.2 c hc
  have e : ("abcdefghijklmnopqrstuvwxyz0123456789-" : Str).cps.toList.all (fun c => decide (c ≤ 1000)) = true := by decide +kernel
  exact of_decide_eq_true (List.all_eq_true.mp e c h2)
theorem prT_lay {q : Str × Str} (h1 : NameOk q.1) (h2 : ValOk q.2) : (prT q).canLay0 = true := by
  simp [prT, PyData.canLay0, PyData.canLayAll0, nameok_str h1, valok_str h2]
theorem prT_depth (q : Str × Str) : (prT q).depth ≤ 2 := by simp [prT, PyData.depth, PyData.depthAll]
theorem prTs_lay : ∀ gs : List (Str × Str), (∀ q ∈ gs, NameOk q.1 ∧ ValOk q.2) → PyData.canLayAll0 (gs.map prT) = true
  | [], _ => by simp [PyData.canLayAll0]
  | q :: gs, h => by
    have h1 := h q List.mem_cons_self
    simp [PyData.canLayAll0, prT_lay h1.1 h1.2, prTs_lay gs (fun p hp => h p (List.mem_cons_of_mem _ hp))]
theorem prTs_depth : ∀ gs : List (Str × Str), PyData.depthAll (gs.map prT) ≤ 2
  | [] => by simp [PyData.depthAll]
  | q :: gs => by
    have h1 := prTs_depth gs
    have h2 := prT_depth q
    simp only [List.map_cons, PyData.depthAll]
    omega
theorem prTs_shaped {gs : List (Str × Str)} (ok : FOk gs) : SeqAt.shaped (.list (gs.map prT)) = true := by
  have h1 := prTs_depth gs
  have h2 : PyData.depth (.list (gs.map prT)) ≤ 64 := by
    simp only [PyData.depth]
    omega
  show (PyData.canLay0 (.list (gs.map prT)) && decide (PyData.depth (.list (gs.map prT)) ≤ 64)) = true
  rw [Bool.and_eq_true]
  exact ⟨by simp only [PyData.canLay0]; exact prTs_lay gs ok.2, decide_eq_true h2⟩
theorem prTs_eqv {gs : List (Str × Str)} (ok : FOk gs) : PyData.eqv (.list (gs.map prT)) (.list (gs.map prT)) = true :=
  PySem.SeqAt.eqv_refl _ (by simp only [PyData.canLay0]; exact prTs_lay gs ok.2)
section
variable {w : World} {K : PySem.W.Frag} {mg : Str → Option Value} {base : Heap} {k : Nat} {N ps : List Str} {sp : Sp}
def LsAt (H : Hp) (l : Addr) (gs : List (Str × Str)) : Prop := ∃ ts, H l = some (.lst ts) ∧ Prs H ts gs
theorem LsAt.mono {H H' : Hp} {l : Addr} {gs : List (Str × Str)} (s : Same H H') (h : LsAt H l gs) : LsAt H' l gs := let ⟨ts, a, b⟩ := h; ⟨ts, s _ _ a, prs_mono s b⟩
def spStay (K : PySem.W.Frag) : Sp := fun vs H Q _ => ∃ rl fl sl gs1 gs2, vs = [.ref rl, .ref fl, .ref sl] ∧ ReqsAt K H rl gs1 gs2 ∧ LsAt H fl gs1 ∧ LsAt H sl gs2 ∧ FOk gs1 ∧ FOk gs2 ∧ ∀ H', Same H H' → Q (.bl true) H'
theorem sc_stay : FnScope ["_law_requests", "_law_fields_here", "_law_starred", "_law_k"] ["_law_requests", "_law_fields_here", "_law_starred"] (defScope d_law_stay.st) := ⟨rfl, rfl, rfl, by decide +kernel, rfl, by decide +kernel, by decide +kernel⟩
theorem r_stay (T : Tx K mg) : FnR PP w K mg base CX0 1 (gA K "_law_stay") (spStay K) := by
  refine fnr_of (d := d_law_stay) T 33 rfl sc_stay (fun _ _ _ _ _ _ us hl => match us, hl with | [_, _, _], _ => rfl) (fun vs H Q E h => ?_) (fun cdv A outer s H vs Q E hr h => ?_)
  · obtain ⟨_, _, _, _, _, rfl, _⟩ := h
    rfl
  · obtain ⟨rl, fl, sl, gs1, gs2, rfl, ⟨r1, r2, hrl, hr1, hr2⟩, ⟨ts1, hf1, hp1⟩, ⟨ts2, hf2, hp2⟩, ok1, ok2, k⟩ := h
    have hu := unitsOk64 hr
    refine ⟨_, pss_cons (ps_for PassesOwn.never rfl (pi_range1 (by rfl) (T.free "range") (pa_cons pe_int pa_nil)) (pg_name (i := 3) sc_stay.nd rfl (Or.inl rfl))
        (pss_cons (ps_if (PW.pt (pw_or (pt_cmpR op_ne (pe_fld (pe_ix ix_list (pv 0) (pv 3) (fun _ _ => rfl)) rfl) pe_str (nomark _)) (pw_or1 (pt_cmpR op_ne (pe_fld (pe_ix ix_list (pv 0) (pv 3) (fun _ _ => rfl)) rfl) pe_str (nomark _))))) (pss_one (ps_ret pe_bl)) pss_nil)
        (pss_one (ps_if (pt_cmpR (op_neD hu) (pe_fld (pe_ix ix_list (pv 0) (pv 3) (fun _ _ => rfl)) rfl) (pe_ix ix_list (pe_lst (pa_cons (pv 1) (pa_cons (pv 2) pa_nil))) (pv 3) (fun _ _ => rfl)) (nomark _)) (pss_one (ps_ret pe_bl)) pss_nil))))
      (pss_one (ps_ret pe_bl)), ?_⟩
    refine ⟨2, rfl, by decide, by decide, for_range (n := 2) (fun i σ' H' => ∃ a, σ' = [some (.ref rl), some (.ref fl), some (.ref sl), a] ∧ Same H H') ⟨none, rfl, Same.refl _⟩ ?_ ?_⟩
    · rintro i σ H1 hi ⟨a, rfl, s1⟩
      obtain ⟨r, f, gs, e1, e2, hr, ⟨ts, hf, hp⟩, ok⟩ : ∃ r f gs, atI [V.ref r1, V.ref r2] (0 + ((i : Nat) : Int)) = some (.ref r) ∧ atI [V.ref fl, V.ref sl] (0 + ((i : Nat) : Int)) = some (.ref f) ∧ ReqAt K H r gs ∧ LsAt H f gs ∧ FOk gs := by
        match i, hi with
        | 0, _ => exact ⟨r1, fl, gs1, rfl, rfl, hr1, ⟨ts1, hf1, hp1⟩, ok1⟩
        | 1, _ => exact ⟨r2, sl, gs2, rfl, rfl, hr2, ⟨ts2, hf2, hp2⟩, ok2⟩
      obtain ⟨dx, ff, tf, h1, h2, h3⟩ := hr.mono s1
      have hl := SqL.of (K := K) (s1 _ _ hrl)
      refine ⟨_, rfl, _, rfl, rl, _, _, _, rfl, rfl, hl, e1, r, _, dx, _, _, rfl, h1, T.cls "Request", T.noat "Request" "method", fr_method, rfl, _, rfl, iteN (by decide +kernel) ?_⟩
      refine ⟨_, rfl, _, rfl, rl, _, _, _, rfl, rfl, hl, e1, r, _, dx, _, _, rfl, h1, T.cls "Request", T.noat "Request" "path", fr_path, rfl, _, rfl, iteN (by decide +kernel) ?_⟩
      refine ⟨_, rfl, _, rfl, rl, _, _, _, rfl, rfl, hl, e1, r, _, dx, _, _, rfl, h1, T.cls "Request", T.noat "Request" "fields", fr_fields, _, rfl, _, rfl, len2, fun l nl => ?_⟩
      have s2 := s1.trans (same_upd (o := .lst [.ref fl, .ref sl]) nl)
      have s3 := same_upd (o := .lst [.ref fl, .ref sl]) nl
      refine ⟨_, rfl, l, _, _, _, rfl, rfl, SqL.of upd_same, e2, ?_⟩
      refine ⟨.list (gs.map prT), .list (gs.map prT), .lst (SqL.of (s3 _ _ h2)) (dp_prs (prs_mono s3 h3)), .lst (SqL.of (s2 _ _ hf)) (dp_prs (prs_mono s2 hp)), prTs_shaped ok, prTs_shaped ok, _, rfl, iteN ?_ ⟨_, rfl, s2⟩⟩
      rw [prTs_eqv ok]
      rfl
    · rintro σ H1 ⟨a, rfl, s1⟩
      exact k H1 s1
end
end K13

set_option Elab.async false
set_option linter.all false
set_option maxRecDepth 100000
set_option maxHeartbeats 4000000
/-! what holds through the law's turns -/
namespace K13
open PySem PySem.Spec PyProof.Rows L2 SX

/-! ### bounds of the world by the turn -/
structure WB (i : Nat) (W : Wd) : Prop where
  ok : WOk W
  c : W.clock ≤ 30000 * (i : Int)
  v : W.version ≤ 1 + 2 * i
  e : W.epoch ≤ 1 + 2 * i
  r0 : -2000 ≤ W.reading
  r1 : W.reading ≤ W.clock + 2000
theorem Mv1.rd {W W' : Wd} (m : Mv1 W W') (ok : WOk W) (r0 : -2000 ≤ W.reading) (r1 : W.reading ≤ W.clock + 2000) : -2000 ≤ W'.reading ∧ W'.reading ≤ W'.clock + 2000 := by
  obtain ⟨h1, h2, h3, h4, h5, h6, h7, h8, h9, h10, h11, h12⟩ := ok
  cases m with
  | tick t h0 => exact ⟨r0, by show W.reading ≤ W.clock + t + 2000; omega⟩
  | off o a b => exact ⟨r0, r1⟩
  | grow e h => exact ⟨by show -2000 ≤ W.clock + W.offset; omega, by show W.clock + W.offset ≤ W.clock + 2000; omega⟩
  | erase => exact ⟨r0, r1⟩
theorem Goes.rd {W W' : Wd} (g : Goes W W') (ok : WOk W) (r0 : -2000 ≤ W.reading) (r1 : W.reading ≤ W.clock + 2000) : -2000 ≤ W'.reading ∧ W'.reading ≤ W'.clock + 2000 := by
  induction g with
  | refl => exact ⟨r0, r1⟩
  | step h m ih => exact m.rd (h.ok ok) ih.1 ih.2
theorem WB.step {i : Nat} {W W' : Wd} (h : WB i W) (g : Goes W W') (c : W'.clock ≤ W.clock + 30000) (v : W'.version ≤ W.version + 2) (e : W'.epoch ≤ W.epoch + 2) : WB (i + 1) W' := by
  obtain ⟨a1, a2, a3, a4, a5, a6⟩ := h
  have r := g.rd a1 a5 a6
  exact ⟨g.ok a1, by omega, by omega, by omega, r.1, r.2⟩
theorem WB.succ {i : Nat} {W : Wd} (h : WB i W) : WB (i + 1) W := h.step (.refl W) (by omega) (by omega) (by omega)
theorem WB.init {W : Wd} (h : WInit W) : WB 0 W := by
  obtain ⟨a1, a2, a3, a4, a5⟩ := h
  exact ⟨a1, by omega, by omega, by omega, by omega, by omega⟩
theorem WB.sm {i : Nat} {W : Wd} (h : WB i W) (hi : i ≤ 14) : WSmall W := ⟨by have := h.v; omega, by have := h.e; omega⟩
theorem WB.rd {i : Nat} {W : Wd} (h : WB i W) (hi : i ≤ 14) : RdSm W := by
  have := h.r0
  have := h.r1
  have := h.c
  show W.reading.natAbs < 1000000
  omega
theorem Took.go {W W' : Wd} {n : Nt} (g : Goes W W') (h : Took W n) : Took W' n := let ⟨W0, a, b, c, d, e⟩ := h; ⟨W0, a, b, c, d, e.trans g⟩

/-! ### the turns' invariant -/
structure LX where
  b : Addr
  cl : Addr
  d : Addr
  nl : Addr
  rl : Addr
  fl : Addr
  sl : Addr
  cdl : Addr
  gs1 : List (Str × Str)
  gs2 : List (Str × Str)
def CODES : List V := [.str "wait", .str "note", .str "change", .str "wait", .str "note", .str "alike", .str "clock", .str "erase"]
abbrev LX.S (X : LX) : List Addr := [X.b, X.d, X.nl]
structure LI (K : PySem.W.Frag) (X : LX) (i : Nat) (H : Hp) (ns : List V) (W : Wd) : Prop where
  bag : BagAt H X.b X.cl
  wat : WAt H X.d W
  wb : WB i W
  nts : H X.nl = some (.lst ns)
  all : ∀ v ∈ ns, ∃ n, NoteAt K (Off X.S H) v n ∧ Took W n
  rq : ReqsAt K (Off X.S H) X.rl X.gs1 X.gs2
  f1 : LsAt (Off X.S H) X.fl X.gs1
  f2 : LsAt (Off X.S H) X.sl X.gs2
  cd : Off X.S H X.cdl = some (.lst CODES)
  len : ns.length ≤ i
  nb : X.nl ≠ X.b
  nc : X.nl ≠ X.cl
  nd : X.nl ≠ X.d
theorem LI.keep {K : PySem.W.Frag} {X : LX} {i i' : Nat} {H H' : Hp} {ns : List V} {W W' : Wd} (h : LI K X i H ns W) (k : ∀ c o, c ∉ X.S → H c = some o → H' c = some o) (hb : BagAt H' X.b X.cl) (hw : WAt H' X.d W') (wb : WB i' W') (g : Goes W W') (hn : H' X.nl = some (.lst ns)) (le : i ≤ i') : LI K X i' H' ns W' := by
  have s : Same (Off X.S H) (Off X.S H') := off_mono k
  exact ⟨hb, hw, wb, hn, fun v m => let ⟨n, a, b⟩ := h.all v m; ⟨n, a.mono s, b.go g⟩, h.rq.mono s, h.f1.mono s, h.f2.mono s, s _ _ h.cd, Nat.le_trans h.len le, h.nb, h.nc, h.nd⟩
theorem LI.same {K : PySem.W.Frag} {X : LX} {i : Nat} {H H' : Hp} {ns : List V} {W : Wd} (h : LI K X i H ns W) (s : Same H H') : LI K X i H' ns W := h.keep (fun c o _ e => s c o e) (h.bag.mono s) (h.wat.mono s) h.wb (.refl W) (s _ _ h.nts) (Nat.le_refl _)
theorem LI.kp {K : PySem.W.Frag} {X : LX} {i : Nat} {H H' : Hp} {ns : List V} {W : Wd} (h : LI K X i H ns W) (k : Kp X.b H H') (hb : BagAt H' X.b X.cl) : LI K X i H' ns W :=
  h.keep (fun c o n e => k c o (fun z => n (by rw [z]; exact List.mem_cons_self)) e) hb (h.wat.kp (h.wat.ne h.bag) k) h.wb (.refl W) (k _ _ h.nb h.nts) (Nat.le_refl _)
theorem LI.has {K : PySem.W.Frag} {X : LX} {i : Nat} {H : Hp} {ns : List V} {W : Wd} (h : LI K X i H ns W) : ∀ a ∈ X.S, H a ≠ none := by
  intro a m e
  obtain ⟨xs, eb⟩ := h.bag.has
  obtain ⟨kvs, ed, _, _⟩ := h.wat
  rcases List.mem_cons.mp m with rfl | m
  · rw [e] at eb
    cases eb
  · rcases List.mem_cons.mp m with rfl | m
    · rw [e] at ed
      cases ed
    · rw [List.mem_singleton.mp m, h.nts] at e
      cases e
/-- a note is put to the others -/
theorem LI.snoc {K : PySem.W.Frag} {X : LX} {i : Nat} {H : Hp} {ns : List V} {W : Wd} {v : V} {n : Nt} (h : LI K X i H ns W) (hn : NoteAt K (Off X.S H) v n) (tk : Took W n) : LI K X (i + 1) (upd H X.nl (.lst (ns ++ [v]))) (ns ++ [v]) W := by
  have s : Same (Off X.S H) (Off X.S (upd H X.nl (.lst (ns ++ [v])))) := off_mono fun c o m e => by
    rw [upd_ne (fun z => m (by rw [z]; exact List.mem_cons_of_mem _ (List.mem_cons_of_mem _ (List.mem_singleton.mpr rfl))))]
    exact e
  refine ⟨h.bag.kpn kp_upd h.nb.symm h.nc.symm, h.wat.kp h.nd.symm kp_upd, h.wb.succ, upd_same, fun u m => ?_, h.rq.mono s, h.f1.mono s, h.f2.mono s, s _ _ h.cd, ?_, h.nb, h.nc, h.nd⟩
  · rcases List.mem_append.mp m with m | m
    · obtain ⟨n, a, b⟩ := h.all u m
      exact ⟨n, a.mono s, b⟩
    · rw [List.mem_singleton.mp m]
      exact ⟨n, hn.mono s, tk⟩
  · rw [List.length_append]
    exact Nat.succ_le_succ h.len

/-! ### the fields -/
theorem menu_ok : ∀ q ∈ MENU, (NameOk q.1 ∧ ValOk q.2) ∧ q.1 ≠ "if-mark" ∧ q.1 ≠ "if-unchanged" := by
  have nm : ∀ (z : Str), (decide (1 ≤ z.length ∧ z.length ≤ 30 ∧ z ≠ "length" ∧ (match z.cps.toList.head? with | some c => decide (c ∈ ("abcdefghijklmnopqrstuvwxyz" : Str).cps.toList) | none => false) = true) && z.cps.toList.all (fun c => decide (c ∈ ("abcdefghijklmnopqrstuvwxyz0123456789-" : Str).cps.toList))) = true → NameOk z := fun z h => by
    rw [Bool.and_eq_true] at h
    obtain ⟨a, b, c, d⟩ := of_decide_eq_true h.1
    refine ⟨a, b, c, ?_, fun e he => of_decide_eq_true (List.all_eq_true.mp h.2 e he)⟩
    cases hh : z.cps.toList.head? with
    | none =>
      rw [hh] at d
      cases d
    | some x =>
      rw [hh] at d
      exact ⟨x, rfl, of_decide_eq_true d⟩
  have vl : ∀ (z : Str), (decide (z.length ≤ 200 ∧ Txt.stripChars z " " = z) && z.cps.toList.all (fun c => decide (32 ≤ c ∧ c ≤ 126 ∧ c ≠ 37))) = true → ValOk z := fun z h => by
    rw [Bool.and_eq_true] at h
    obtain ⟨a, b⟩ := of_decide_eq_true h.1
    exact ⟨a, fun c hc => of_decide_eq_true (p := 32 ≤ c ∧ c ≤ 126 ∧ c ≠ 37) (List.all_eq_true.mp h.2 c hc), b⟩
  intro q m
  unfold MENU at m
  simp only [List.mem_cons, List.not_mem_nil, or_false] at m
  rcases m with rfl | rfl | rfl | rfl | rfl | rfl | rfl <;> exact ⟨⟨nm _ (by decide +kernel), vl _ (by decide +kernel)⟩, by decide +kernel, by decide +kernel⟩
theorem vals_none {n : Str} {gs : List (Str × Str)} (h : ∀ q ∈ gs, q.1 ≠ n) : valsOf n gs = [] := by
  unfold valsOf
  rw [List.filter_eq_nil_iff.mpr fun q m e => h q m (of_decide_eq_true e)]
  rfl
theorem gok1 {gs : List (Str × Str)} (hl : gs.length ≤ 7) (hm : ∀ q ∈ gs, q ∈ MENU) : GOk gs false :=
  ⟨⟨by omega, fun q m => (menu_ok q (hm q m)).1⟩, by omega, vals_none fun q m => (menu_ok q (hm q m)).2.1, vals_none fun q m => (menu_ok q (hm q m)).2.2⟩
theorem mark_ok : NameOk "if-mark" ∧ ValOk "*" := by
  refine ⟨⟨by decide +kernel, by decide +kernel, by decide +kernel, ⟨105, by decide +kernel, by decide +kernel⟩, by decide +kernel⟩, by decide +kernel, ?_, by decide +kernel⟩
  intro c hc
  have e : ("*" : Str).cps.toList.all (fun c => decide (32 ≤ c ∧ c ≤ 126 ∧ c ≠ 37)) = true := by decide +kernel
  exact of_decide_eq_true (p := 32 ≤ c ∧ c ≤ 126 ∧ c ≠ 37) (List.all_eq_true.mp e c hc)
theorem gok2 {a c : List (Str × Str)} (ha : a.length ≤ 7) (hc : c.length ≤ 7) (ma : ∀ q ∈ a, q ∈ MENU) (mc : ∀ q ∈ c, q ∈ MENU) : GOk (a ++ [(("if-mark" : Str), ("*" : Str))] ++ c) true := by
  have hl : (a ++ [(("if-mark" : Str), ("*" : Str))] ++ c).length ≤ 15 := by
    rw [List.length_append, List.length_append]
    show a.length + 1 + c.length ≤ 15
    omega
  refine ⟨⟨Nat.le_trans hl (by decide), fun q m => ?_⟩, Nat.le_trans hl (by decide), ?_, ?_⟩
  · rcases List.mem_append.mp m with m | m
    · rcases List.mem_append.mp m with m | m
      · exact (menu_ok q (ma q m)).1
      · rw [List.mem_singleton.mp m]
        exact mark_ok
    · exact (menu_ok q (mc q m)).1
  · rw [valsOf_app, valsOf_app, valsOf_one_eq, vals_none (fun q m => (menu_ok q (ma q m)).2.1), vals_none (fun q m => (menu_ok q (mc q m)).2.1)]
    rfl
  · rw [valsOf_app, valsOf_app, valsOf_one_ne (by decide +kernel), vals_none (fun q m => (menu_ok q (ma q m)).2.2), vals_none (fun q m => (menu_ok q (mc q m)).2.2)]
    rfl
def cutG (gs : List (Str × Str)) (lo hi : Option Int) : List (Str × Str) := (gs.drop (HT.sIx gs.length 0 lo)).take (HT.sIx gs.length gs.length hi - HT.sIx gs.length 0 lo)
theorem cutG_prs {H : Hp} {ts : List V} {gs : List (Str × Str)} {lo hi : Option Int} (h : Prs H ts gs) : Prs H (cutV ts lo hi) (cutG gs lo hi) := by
  unfold cutV cutG
  rw [h.length]
  exact (h.drop _).take _
theorem cutG_len {gs : List (Str × Str)} {lo hi : Option Int} : (cutG gs lo hi).length ≤ gs.length := by
  unfold cutG
  rw [List.length_take, List.length_drop]
  omega
theorem cutG_mem {gs : List (Str × Str)} {lo hi : Option Int} {q : Str × Str} (h : q ∈ cutG gs lo hi) : q ∈ gs := List.mem_of_mem_drop (List.mem_of_mem_take h)
end K13

set_option Elab.async false
set_option linter.all false
set_option maxRecDepth 100000
set_option maxHeartbeats 4000000
/-! the law -/
namespace K13
open PySem PySem.Spec PyProof.Rows L2 SX
section
variable {w : World} {K : PySem.W.Frag} {mg : Str → Option Value} {base : Heap} {k : Nat} {N ps : List Str} {sp : Sp}
theorem at8 {p : Int} (h0 : 0 ≤ p) (h1 : p < 8) : ∃ code : Str, atI CODES p = some (.str code) := by
  obtain ⟨j, rfl⟩ : ∃ j : Nat, p = (j : Int) := ⟨p.toNat, by omega⟩
  have hj : j < 8 := by omega
  match j, hj with
  | 0, _ => exact ⟨_, rfl⟩
  | 1, _ => exact ⟨_, rfl⟩
  | 2, _ => exact ⟨_, rfl⟩
  | 3, _ => exact ⟨_, rfl⟩
  | 4, _ => exact ⟨_, rfl⟩
  | 5, _ => exact ⟨_, rfl⟩
  | 6, _ => exact ⟨_, rfl⟩
  | 7, _ => exact ⟨_, rfl⟩
theorem ls_new {H2 Hx : Hp} {l : Addr} {ts : List V} {gs : List (Str × Str)} (h : H2 l = none) (e : Hx l = some (.lst ts)) (p : Prs (New H2 Hx) ts gs) : LsAt (New H2 Hx) l gs := ⟨ts, new_at h e, p⟩
theorem reqs_new {H2 Hx : Hp} {rl r1 r2 : Addr} {gs1 gs2 : List (Str × Str)} (h : H2 rl = none) (e : Hx rl = some (.lst [.ref r1, .ref r2])) (a : ReqAt K (New H2 Hx) r1 gs1) (b : ReqAt K (New H2 Hx) r2 gs2) : ReqsAt K (New H2 Hx) rl gs1 gs2 := ⟨r1, r2, new_at h e, a, b⟩
def starF (gs : List (Str × Str)) (sp : Int) : List (Str × Str) := cutG gs none (some sp) ++ [(("if-mark" : Str), ("*" : Str))] ++ cutG gs (some sp) none
theorem cut3 {Hx : Hp} {ts : List V} {gs : List (Str × Str)} {t : Addr} {sp : Int} (h : Prs Hx ts gs) (ht : Hx t = some (.tup [.str "if-mark", .str "*"])) : Prs Hx (cutV ts none (some sp) ++ [.ref t] ++ cutV ts (some sp) none) (starF gs sp) :=
  ((cutG_prs h).app (.one ⟨t, rfl, ht⟩)).app (cutG_prs h)
theorem made_sub {Hx : Hp} {x dx C : Addr} (nx : Hx x = none) (nd : Hx dx = none) : Same Hx (upd (upd Hx dx (.own x)) x (.ins C dx [])) := fun c o e => by rw [upd_ne (ne_of_none e nx), upd_ne (ne_of_none e nd)]; exact e
theorem to_off {H2 Hc : Hp} {b d nl : Addr} {xb xd o : HO} (hb : H2 b = some xb) (hd : H2 d = some xd) (nnl : Hc nl = none) : Same (New H2 Hc) (Off [b, d, nl] (upd Hc nl o)) := fun a u e => by
  obtain ⟨e7, e8⟩ := of_new e
  refine off_at (fun m => ?_) (same_upd nnl _ _ e8)
  rcases List.mem_cons.mp m with rfl | m
  · rw [e7] at hb
    cases hb
  · rcases List.mem_cons.mp m with rfl | m
    · rw [e7] at hd
      cases hd
    · rw [List.mem_singleton.mp m, nnl] at e8
      cases e8
def spLaw (K : PySem.W.Frag) : Sp := fun vs H Q _ => ∃ a ns, vs = [.ref a] ∧ SqL K H a ((ns : List Int).map V.int) ∧ ∀ H', Q (.bl true) H'
abbrev nsL : List Str := ["_law_script", "_law_bag_here", "_law_world_here", "_law_fields_here", "_law_spot", "_law_starred", "_law_requests", "_law_codes", "_law_notes", "_law_k", "_law_code", "_law_note_here"]
theorem sc_law : FnScope nsL ["_law_script"] (defScope d_law.st) := ⟨rfl, rfl, rfl, by decide +kernel, rfl, by decide +kernel, by decide +kernel⟩
theorem b_law (T : Tx K mg) (cdv : Value) (A : Around) (outer : List Env) (s : Shared) (H : Hp) (vs : List V) (Q : VK) (E : XK) (hr : Room 11 (A.deeper (envOfC d_law.qual (defScope d_law.st) s.heap.objs.size (d_law.at_ K) cdv))) (h : spLaw K vs H Q E) :
    ∃ t, PSs (cxOf CX0 PP w K mg base nsL d_law.qual (defScope d_law.st) (d_law.at_ K) cdv A outer s H E).nox (defBody d_law.st) t ∧ t { nx := fun _ H' => Q .non H', rt := Q } (start nsL vs) H := by
  have F1 : FnR PP w K mg base CX0 1 (gA K "_law_bag") (spBag K) := r_bag T
  have F2 : FnR PP w K mg base CX0 3 (gA K "_law_world") spWorld := r_world T
  have F3 : FnR PP w K mg base CX0 2 (gA K "_law_fields") spFields := r_fields T
  have F4 : FnR PP w K mg base CX0 1 (gA K "_law_take") spTake := r_take T
  have F5 : FnR PP w K mg base CX0 5 (rI K) (fun vs H Q E => spRInit K (vs ++ [.str ""]) H Q E) := r_RInit1 T
  have F6 : FnR PP w K mg base CX0 3 (gA K "_law_step") spStep := r_step T
  have F7 : FnR PP w K mg base CX0 11 (gA K "_law_note") (spNote K) := r_note T
  have F8 : FnR PP w K mg base CX0 3 (gA K "_law_truth_of_settled") spTos := r_tos T
  have F9 : FnR PP w K mg base CX0 11 (gA K "_law_checks") (spChecks K) := r_checks T
  have F10 : FnR PP w K mg base CX0 1 (gA K "_law_stay") (spStay K) := r_stay T
  obtain ⟨scr, zs, rfl, hscr, k⟩ := h
  have hu := unitsOk hr
  have hrt := hr.mono (show 1 ≤ 11 by decide)
  refine ⟨_, pss_cons (ps_set (i := 1) sc_law.nd rfl (Or.inl rfl) (pe_callR F1 (hr.mono (by decide)) rfl (T.glo "_law_bag") (T.keep "_law_bag") pass0 (pa_cons (pv 0) pa_nil)))
    (pss_cons (ps_set (i := 2) sc_law.nd rfl (Or.inl rfl) (pe_callR F2 (hr.mono (by decide)) rfl (T.glo "_law_world") (T.keep "_law_world") pass0 (pa_cons (pv 1) pa_nil)))
    (pss_cons (ps_set (i := 3) sc_law.nd rfl (Or.inl rfl) (pe_callR F3 (hr.mono (by decide)) rfl (T.glo "_law_fields") (T.keep "_law_fields") pass0 (pa_cons (pv 1) pa_nil)))
    (pss_cons (ps_set (i := 4) sc_law.nd rfl (Or.inl rfl) (pe_callR F4 hrt rfl (T.glo "_law_take") (T.keep "_law_take") pass0 (pa_cons (pv 1) (pa_cons (pe_op op_add (pe_callB call_len_seq (by rfl) (T.free "len") PySem.boot_len (pa_cons (pv 3) pa_nil)) pe_int) pa_nil))))
    (pss_cons (ps_set (i := 5) sc_law.nd rfl (Or.inl rfl) (pe_op op_cat (pe_op op_cat (pe_slice sl_list (pv 3) po_none (po_some (pv 4))) (pe_lst (pa_cons (pe_tup (pa_cons pe_str (pa_cons pe_str pa_nil))) pa_nil))) (pe_slice sl_list (pv 3) (po_some (pv 4)) po_none)))
    (pss_cons (ps_set (i := 6) sc_law.nd rfl (Or.inl rfl) (pe_lst (pa_cons (StX.pe_makeR (T.mkr "Request") F5 (hr.mono (by decide)) rfl (T.glo "Request") pass0 (pa_cons pe_str (pa_cons pe_str (pa_cons (pe_callTy call_list_of (by rfl) (T.free "list") (by decide +kernel) (pa_cons (pv 3) pa_nil)) pa_nil))))
        (pa_cons (StX.pe_makeR (T.mkr "Request") F5 (hr.mono (by decide)) rfl (T.glo "Request") pass0 (pa_cons pe_str (pa_cons pe_str (pa_cons (pe_callTy call_list_of (by rfl) (T.free "list") (by decide +kernel) (pa_cons (pv 5) pa_nil)) pa_nil)))) pa_nil))))
    (pss_cons (ps_set (i := 7) sc_law.nd rfl (Or.inl rfl) (pe_lst (pa_cons pe_str (pa_cons pe_str (pa_cons pe_str (pa_cons pe_str (pa_cons pe_str (pa_cons pe_str (pa_cons pe_str (pa_cons pe_str pa_nil))))))))))
    (pss_cons (ps_set (i := 8) sc_law.nd rfl (Or.inl rfl) (pe_lst pa_nil))
    (pss_cons (ps_for PassesOwn.never rfl (pi_range1 (by rfl) (T.free "range") (pa_cons (pe_ix ix_list (pe_lst (pa_cons pe_int (pa_cons pe_int (pa_cons pe_int (pa_cons pe_int (pa_cons pe_int (pa_cons pe_int pa_nil))))))) (pe_callR F4 hrt rfl (T.glo "_law_take") (T.keep "_law_take") pass0 (pa_cons (pv 1) (pa_cons pe_int pa_nil))) (fun _ _ => rfl)) pa_nil)) (pg_name (i := 9) sc_law.nd rfl (Or.inl rfl))
      (pss_cons (ps_set (i := 10) sc_law.nd rfl (Or.inl rfl) (pe_ix ix_list (pv 7) (pe_op op_mod (pe_callTy call_int1 (by rfl) (T.free "int") (by decide +kernel) (pa_cons (pe_op op_add (pe_callR F4 hrt rfl (T.glo "_law_take") (T.keep "_law_take") pass0 (pa_cons (pv 1) (pa_cons pe_int pa_nil))) (pv 9)) pa_nil)) pe_int) (fun _ _ => rfl)))
      (pss_cons (ps_if (pt_cmpR op_ne (pv 10) pe_str (nomark _)) (pss_one (ps_expr (pe_callR F6 (hr.mono (by decide)) rfl (T.glo "_law_step") (T.keep "_law_step") pass0 (pa_cons (pv 1) (pa_cons (pv 2) (pa_cons (pv 10) pa_nil))))))
        (pss_one (ps_if (pt_val (pe_dget hu (pv 2) pe_str (fun _ _ => rfl))) (pss_one (ps_expr (pe_bm PySem.F.plainAttrs_list PySem.F.slot_list_append PySem.F.type_list_append mt_append (pv 8) (pa_cons (pe_callR F7 hr rfl (T.glo "_law_note") (T.keep "_law_note") pass0 (pa_cons (pv 2) (pa_cons (pv 6) pa_nil))) pa_nil)))) pss_nil)))
      (pss_cons (ps_if (pt_not (pt_val (pe_callR F8 (hr.mono (by decide)) rfl (T.glo "_law_truth_of_settled") (T.keep "_law_truth_of_settled") pass0 (pa_cons (pv 2) pa_nil)))) (pss_one (ps_ret pe_bl)) pss_nil)
      (pss_one (ps_if (pt_cmpR op_gt (pe_callB call_len_seq (by rfl) (T.free "len") PySem.boot_len (pa_cons (pv 8) pa_nil)) pe_int (nomark _))
        (pss_cons (ps_set (i := 11) sc_law.nd rfl (Or.inl rfl) (pe_ix ix_list (pv 8) (pe_callR F4 hrt rfl (T.glo "_law_take") (T.keep "_law_take") pass0 (pa_cons (pv 1) (pa_cons (pe_callB call_len_seq (by rfl) (T.free "len") PySem.boot_len (pa_cons (pv 8) pa_nil)) pa_nil))) (fun _ _ => rfl)))
        (pss_one (ps_if (pt_not (pt_val (pe_callR F9 hr rfl (T.glo "_law_checks") (T.keep "_law_checks") pass0 (pa_cons (pv 2) (pa_cons (pv 11) (pa_cons (pv 6) pa_nil)))))) (pss_one (ps_ret pe_bl)) pss_nil))) pss_nil))))))
    (pss_cons (ps_for PassesOwn.never rfl (pi_list (pv 8)) (pg_name (i := 11) sc_law.nd rfl (Or.inl rfl))
      (pss_one (ps_if (pt_not (pt_val (pe_callR F9 hr rfl (T.glo "_law_checks") (T.keep "_law_checks") pass0 (pa_cons (pv 2) (pa_cons (pv 11) (pa_cons (pv 6) pa_nil)))))) (pss_one (ps_ret pe_bl)) pss_nil)))
    (pss_one (ps_ret (pe_callR F10 hrt rfl (T.glo "_law_stay") (T.keep "_law_stay") pass0 (pa_cons (pv 6) (pa_cons (pv 3) (pa_cons (pv 5) pa_nil))))))))))))))), ?_⟩
  refine ⟨_, rfl, scr, zs, rfl, hscr, fun b cl H1 s1 nb0 ncl0 b1 => ?_⟩
  refine ⟨_, rfl, b, rfl, cl, b1, fun d W H2 wi k2 b2 nd w2 => ?_⟩
  refine ⟨_, rfl, b, rfl, cl, b2, fun fl ts gs H3 k3 b3 nfl hfl hts hlen hmem => ?_⟩
  have hlt : ts.length = gs.length := hts.length
  refine ⟨_, rfl, _, rfl, fl, _, rfl, .inl (SqL.of hfl), _, _, rfl, rfl, b, ((ts.length : Nat) : Int) + 1, rfl, cl, b3, by omega, by omega, fun sp H4 p0 p1 k4 b4 => ?_⟩
  obtain ⟨xb, hxb⟩ := b2.has
  obtain ⟨xb4, hxb4⟩ := b4.has
  obtain ⟨xc4, hxc4⟩ := b4.hasC
  have ndb : d ≠ b := w2.ne b2
  have k34 := k3.trans k4
  have w4 := w2.kp ndb k34
  have w4' := w4
  obtain ⟨kw4, hw4, _, _⟩ := w4'
  have w2' := w2
  obtain ⟨kw2, hw2, _, _⟩ := w2'
  have fr : ∀ a, H4 a = none → H2 a = none := fun a e => k34.free (fun z => by rw [z, hxb4] at e; cases e) e
  have nfb : fl ≠ b := (ne_of_none hxb nfl).symm
  have hfl4 := k4 _ _ nfb hfl
  have hts4 : Prs (New H2 H4) ts gs := prs_mono (new_kp hxb k4) hts
  refine ⟨_, rfl, _, rfl, _, rfl, fl, ts, rfl, SqL.of hfl4, fun a1 n1 => ?_⟩
  have q1 : Same H4 (upd H4 a1 (.lst (cutV ts none (some sp)))) := same_upd n1
  refine ⟨len2, fun t nt => ⟨(by show 1 ≤ sizeLine; rw [sizeLine_eq]; decide), fun a2 n2 => ?_⟩⟩
  have q2 := q1.trans (same_upd (o := .tup [.str "if-mark", .str "*"]) nt)
  have q3 := q2.trans (same_upd (o := .lst [.ref t]) n2)
  have lc1 := cutV_length ts none (some sp)
  have lc2 := cutV_length ts (some sp) none
  have u12 : upd (upd (upd H4 a1 (.lst (cutV ts none (some sp)))) t (.tup [.str "if-mark", .str "*"])) a2 (.lst [.ref t]) a1 = some (.lst (cutV ts none (some sp))) :=
    (same_upd (o := .lst [.ref t]) n2) _ _ ((same_upd (o := .tup [.str "if-mark", .str "*"]) nt) _ _ upd_same)
  refine ⟨a1, a2, _, _, rfl, rfl, u12, upd_same, Nat.le_of_lt (small1000 (by show _ + 1 ≤ 1000; omega)), fun a3 n3 => ?_⟩
  have q4 := q3.trans (same_upd (o := .lst (cutV ts none (some sp) ++ [.ref t])) n3)
  refine ⟨_, rfl, _, rfl, _, rfl, fl, ts, rfl, SqL.of (q4 _ _ hfl4), fun a4 n4 => ?_⟩
  have q5 := q4.trans (same_upd (o := .lst (cutV ts (some sp) none)) n4)
  refine ⟨a3, a4, _, _, rfl, rfl, (same_upd (o := .lst (cutV ts (some sp) none)) n4) _ _ upd_same, upd_same, Nat.le_of_lt (small1000 (by rw [List.length_append]; show _ + 1 + _ ≤ 1000; omega)), fun sl nsl => ?_⟩
  have q6 := q5.trans (same_upd (o := .lst (cutV ts none (some sp) ++ [.ref t] ++ cutV ts (some sp) none)) nsl)
  have G1 : GOk gs false := gok1 hlen hmem
  have G2 : GOk (starF gs sp) true := gok2 (Nat.le_trans cutG_len hlen) (Nat.le_trans cutG_len hlen) (fun q m => hmem q (cutG_mem m)) (fun q m => hmem q (cutG_mem m))
  have hsl := ls_new (fr _ (q5.free nsl)) upd_same (cut3 (sp := sp) (prs_mono (new_mono q6) hts4) (new_at (fr _ (q1.free nt)) ((same_upd (o := .lst (cutV ts none (some sp) ++ [.ref t] ++ cutV ts (some sp) none)) nsl) _ _ ((same_upd (o := .lst (cutV ts (some sp) none)) n4) _ _ ((same_upd (o := .lst (cutV ts none (some sp) ++ [.ref t])) n3) _ _ ((same_upd (o := .lst [.ref t]) n2) _ _ upd_same))))))
  have hfl6 := ls_new nfl (q6 _ _ hfl4) (prs_mono (new_mono q6) hts4)
  refine ⟨_, rfl, fl, ts, rfl, .inl (SqL.of (q6 _ _ hfl4)), fun L1 nL1 => ?_⟩
  have q7 := q6.trans (same_upd (o := .lst ts) nL1)
  intro x1 d1 nx1 nd1 ne1
  refine ⟨x1, d1, L1, ts, gs, rfl, upd_same, ?_, ?_, G1.ok, fun fl1 ts1 H8 k8 m1 e1 e2 e3 => ⟨rfl, ?_⟩⟩
  · exact made_sub nx1 nd1 _ _ upd_same
  · exact prs_mono (made_sub nx1 nd1) (prs_mono q7 (prs_mono (new_sub _ _) hts4))
  have q8 := q7.trans (made_same nx1 nd1 k8)
  have hr1 : ReqAt K (New H2 H8) x1 gs := ⟨d1, fl1, ts1, new_at (fr _ (q7.free nx1)) e3, new_at (fr _ (q7.free (made_free m1))) e1, e2.imp fun v q ⟨t, e, f⟩ => ⟨t, e, new_at (fr _ (q7.free (made_free (of_new f).1))) (of_new f).2⟩⟩
  have q68 := (same_upd (o := .lst ts) nL1).trans (made_same nx1 nd1 k8)
  have hsl8 := hsl.mono (new_mono q68)
  have hfl8 := hfl6.mono (new_mono q68)
  obtain ⟨ts2, hs2, hp2⟩ := hsl8.mono (new_sub _ _)
  refine ⟨_, rfl, sl, ts2, rfl, .inl (SqL.of hs2), fun L2 nL2 => ?_⟩
  have q9 := q8.trans (same_upd (o := .lst ts2) nL2)
  intro x2 d2 nx2 nd2 ne2
  refine ⟨x2, d2, L2, ts2, starF gs sp, rfl, upd_same, ?_, ?_, G2.ok, fun fl2 ts3 H10 k10 m2 e4 e5 e6 => ⟨rfl, ?_⟩⟩
  · exact made_sub nx2 nd2 _ _ upd_same
  · exact prs_mono (made_sub nx2 nd2) (prs_mono (same_upd nL2) hp2)
  have q10 := q9.trans (made_same nx2 nd2 k10)
  have hr2 : ReqAt K (New H2 H10) x2 (starF gs sp) := ⟨d2, fl2, ts3, new_at (fr _ (q9.free nx2)) e6, new_at (fr _ (q9.free (made_free m2))) e4, e5.imp fun v q ⟨t, e, f⟩ => ⟨t, e, new_at (fr _ (q9.free (made_free (of_new f).1))) (of_new f).2⟩⟩
  have q810 := (same_upd (o := .lst ts2) nL2).trans (made_same nx2 nd2 k10)
  have hr1' := hr1.mono (new_mono q810)
  have hsl10 := hsl8.mono (new_mono q810)
  have hfl10 := hfl8.mono (new_mono q810)
  refine ⟨len2, fun rl nrl => ?_⟩
  have s11 := same_upd (o := .lst [.ref x1, .ref x2]) nrl
  have q11 := q10.trans s11
  refine ⟨(by show 8 ≤ sizeLine; rw [sizeLine_eq]; decide), fun cdl ncd => ?_⟩
  have s12 := same_upd (o := .lst CODES) ncd
  have q12 := q11.trans s12
  refine ⟨by decide, fun nl nnl => ?_⟩
  have s13 := same_upd (o := .lst []) nnl
  have q13 := q12.trans s13
  have hrq := reqs_new (fr _ (q10.free nrl)) upd_same (hr1'.mono (new_mono s11)) (hr2.mono (new_mono s11))
  have nbl : nl ≠ b := (ne_of_none (q12 _ _ hxb4) nnl).symm
  have ncl : nl ≠ cl := (ne_of_none (q12 _ _ hxc4) nnl).symm
  have ndl : nl ≠ d := (ne_of_none (q12 _ _ hw4) nnl).symm
  have toOff := to_off (o := .lst []) hxb hw2 nnl
  have li : LI K ⟨b, cl, d, nl, rl, fl, sl, cdl, gs, starF gs sp⟩ 0 _ [] W := ⟨b4.mono q13, w4.mono q13, WB.init wi, upd_same, (fun v m => by cases m), (hrq.mono (new_mono s12)).mono toOff, ((hfl10.mono (new_mono s11)).mono (new_mono s12)).mono toOff, ((hsl10.mono (new_mono s11)).mono (new_mono s12)).mono toOff,
    toOff _ _ (new_at (fr _ (q11.free ncd)) upd_same), Nat.le_refl 0, nbl, ncl, ndl⟩
  refine ⟨(by show 6 ≤ sizeLine; rw [sizeLine_eq]; decide), fun l0 nl0 => ?_⟩
  have li' := li.same (same_upd (o := .lst [.int 8, .int 4, .int 12, .int 14, .int 2, .int 6]) nl0)
  have nl0b : l0 ≠ b := (ne_of_none (q13 _ _ hxb4) nl0).symm
  refine ⟨_, rfl, b, 6, rfl, cl, li'.bag, by decide, by decide, fun p H14 p0' p1' k14 b14 => ?_⟩
  have li2 := li'.kp k14 b14
  obtain ⟨mv, e1, m, em, m0, m1⟩ := at6 (p := p) (fun v => ∃ m : Int, v = V.int m ∧ 0 ≤ m ∧ m ≤ 14) (a := .int 8) (b := .int 4) (c := .int 12) (d := .int 14) (e := .int 2) (f := .int 6) p0' p1' ⟨8, rfl, by decide, by decide⟩ ⟨4, rfl, by decide, by decide⟩ ⟨12, rfl, by decide, by decide⟩ ⟨14, rfl, by decide, by decide⟩ ⟨2, rfl, by decide, by decide⟩ ⟨6, rfl, by decide, by decide⟩
  subst em
  obtain ⟨X, hX⟩ : ∃ X : LX, X = ⟨b, cl, d, nl, rl, fl, sl, cdl, gs, starF gs sp⟩ := ⟨_, rfl⟩
  rw [← hX] at li2
  have hXb : X.b = b := by rw [hX]
  have hXc : X.cl = cl := by rw [hX]
  have hXd : X.d = d := by rw [hX]
  have hXn : X.nl = nl := by rw [hX]
  have hXr : X.rl = rl := by rw [hX]
  have hXf : X.fl = fl := by rw [hX]
  have hXs : X.sl = sl := by rw [hX]
  have hXk : X.cdl = cdl := by rw [hX]
  have hX1 : X.gs1 = gs := by rw [hX]
  have hX2 : X.gs2 = starF gs sp := by rw [hX]
  have G1 : GOk X.gs1 false := by rw [hX1]; exact G1
  have G2 : GOk X.gs2 true := by rw [hX2]; exact G2
  refine ⟨l0, _, _, _, rfl, rfl, SqL.of (k14 _ _ nl0b upd_same), e1, m, rfl, by omega, by omega, for_range (n := m.toNat) (fun i σ' H' => ∃ a c e ns W', σ' = [some (.ref scr), some (.ref X.b), some (.ref X.d), some (.ref X.fl), some (.int sp), some (.ref X.sl), some (.ref X.rl), some (.ref X.cdl), some (.ref X.nl), a, c, e] ∧ LI K X i H' ns W') ⟨none, none, none, [], W, ?_, li2⟩ ?_ ?_⟩
  · rw [hX]
    rfl
  · rintro i σ H1 hi ⟨a, c, e, ns, W', rfl, I⟩
    have hi14 : i + 1 ≤ 14 := by omega
    dsimp only [gName]
    refine seq_by (t := tAsg _ _) (fun σ' H' => ∃ code : Str, σ' = [some (.ref scr), some (.ref X.b), some (.ref X.d), some (.ref X.fl), some (.int sp), some (.ref X.sl), some (.ref X.rl), some (.ref X.cdl), some (.ref X.nl), some (.int (0 + ((i : Nat) : Int))), some (.str code), e] ∧ LI K X i H' ns W') (fun D' k' => ?_) (fun σ2 H2 h2 => ?_)
    · refine ⟨_, rfl, _, rfl, X.b, 8, rfl, X.cl, I.bag, by decide, by decide, fun r H2 r0 r1 k2 b2 => ?_⟩
      have I2 := I.kp k2 b2
      obtain ⟨code, ec⟩ := at8 (p := (r + (0 + ((i : Nat) : Int))) % 8) (Int.emod_nonneg _ (by decide)) (Int.emod_lt_of_pos _ (by decide))
      exact ⟨_, rfl, _, _, rfl, rfl, .inl ⟨_, rfl, _, _, rfl, rfl, (by show (0:Int) < 8; decide), X.cdl, _, _, _, rfl, rfl, SqL.of (off_sub _ _ _ _ I2.cd), ec, k' _ _ ⟨code, rfl, I2⟩⟩⟩
    · obtain ⟨code, rfl, I⟩ := h2
      refine seq_by (t := tIfS _ _ _) (fun σ' H' => ∃ ns W', σ' = [some (.ref scr), some (.ref X.b), some (.ref X.d), some (.ref X.fl), some (.int sp), some (.ref X.sl), some (.ref X.rl), some (.ref X.cdl), some (.ref X.nl), some (.int (0 + ((i : Nat) : Int))), some (.str code), e] ∧ LI K X (i + 1) H' ns W') (fun D' k' => ?_) (fun σ3 H3 h3 => ?_)
      · refine ⟨_, rfl, rfl, _, rfl, iteAny ?_ ?_⟩
        · refine ⟨_, rfl, _, rfl, _, rfl, X.b, X.d, W', code, rfl, X.cl, I.bag, I.wat, I.wb.ok, fun W2 H3 go cc cv ce q3 b3 w3 => k' _ _ ⟨ns, W2, rfl, ?_⟩⟩
          refine I.keep (fun c o n e => q3 c o (fun z => n (by rw [z]; exact List.mem_cons_self)) (fun z => n (by rw [z]; exact List.mem_cons_of_mem _ List.mem_cons_self)) e) b3 w3 (I.wb.step go cc cv ce) go (q3 _ _ I.nb I.nd I.nts) (Nat.le_succ i)
        · refine ⟨_, rfl, X.d, _, rfl, I.wat.g .there, W'.there, rfl, iteAny ?_ ?_⟩
          · have sm := I.wb.sm (show i ≤ 14 by omega)
            have rd := I.wb.rd (show i ≤ 14 by omega)
            refine ⟨_, rfl, .inl ⟨rfl, _, SqL.of I.nts⟩, _, rfl, _, rfl, X.d, X.rl, W', X.gs1, X.gs2, rfl, I.wat, I.wb.ok, sm, rd, I.rq.mono (off_sub _ _), G1, G2, fun v H3 s3 hn => ?_⟩
            have I3 := I.same s3
            refine ⟨X.nl, ns, v, rfl, rfl, I3.nts, small1000 (by have := I3.len; omega), k' _ _ ⟨ns ++ [v], W', rfl, ?_⟩⟩
            exact I3.snoc (hn.mono (new_off I.has)) ⟨W', rfl, I.wb.ok, sm, rd, .refl W'⟩
          · exact k' _ _ ⟨ns, W', rfl, I.keep (fun _ _ _ e => e) I.bag I.wat I.wb.succ (.refl _) I.nts (Nat.le_succ i)⟩
      · obtain ⟨ns, W', rfl, I⟩ := h3
        refine ⟨_, rfl, X.d, W', rfl, I.wat, _, rfl, iteF ?_⟩
        refine ⟨_, rfl, X.nl, _, rfl, .inl (SqL.of I.nts), _, _, rfl, rfl, _, rfl, ?_⟩
        have hlen14 : ns.length ≤ 14 := Nat.le_trans I.len hi14
        by_cases hns : 0 < ns.length
        · refine iteB (decide_eq_true (by omega)) ?_
          refine ⟨_, rfl, _, rfl, _, rfl, X.nl, _, rfl, .inl (SqL.of I.nts), X.b, (ns.length : Int), rfl, X.cl, I.bag, by omega, by omega, fun z H4 z0 z1 k4 b4 => ?_⟩
          have I4 := I.kp k4 b4
          obtain ⟨j, rfl⟩ : ∃ j : Nat, z = (j : Int) := ⟨z.toNat, by omega⟩
          have hj : j < ns.length := by omega
          obtain ⟨n, hn, tk⟩ := I4.all ns[j] (List.getElem_mem hj)
          refine ⟨X.nl, _, _, ns[j], rfl, rfl, SqL.of I4.nts, atI_nat (List.getElem?_eq_getElem hj), ?_⟩
          refine ⟨_, rfl, _, rfl, _, rfl, X.d, ns[j], X.rl, W', n, X.gs1, X.gs2, rfl, I4.wat, I4.wb.ok, I4.wb.sm hi14, I4.wb.rd hi14, hn.mono (off_sub _ _), tk, I4.rq.mono (off_sub _ _), G1, G2, fun H5 s5 => ⟨_, rfl, iteF ?_⟩⟩
          exact ⟨_, _, _, ns, W', rfl, I4.same s5⟩
        · refine iteN (decide_eq_false (by omega)) ?_
          exact ⟨_, _, _, ns, W', rfl, I⟩
  · rintro σ H1 ⟨a, c, e, ns, W', rfl, I⟩
    have hm14 : m.toNat ≤ 14 := by omega
    refine ⟨_, rfl, X.nl, rfl, ⟨_, SqL.of I.nts⟩, for_list (xs := ns) (fun j σ' H' => ∃ e, σ' = [some (.ref scr), some (.ref X.b), some (.ref X.d), some (.ref X.fl), some (.int sp), some (.ref X.sl), some (.ref X.rl), some (.ref X.cdl), some (.ref X.nl), a, c, e] ∧ LI K X m.toNat H' ns W') ⟨e, rfl, I⟩ (fun j σ H2 _ ⟨_, _, I⟩ => SqL.of I.nts) ?_ ?_⟩
    · rintro j v σ H2 hj ⟨e, rfl, I⟩
      obtain ⟨n, hn, tk⟩ := I.all v (List.mem_of_getElem? hj)
      dsimp only [gName]
      refine ⟨_, rfl, _, rfl, _, rfl, X.d, v, X.rl, W', n, X.gs1, X.gs2, rfl, I.wat, I.wb.ok, I.wb.sm hm14, I.wb.rd hm14, hn.mono (off_sub _ _), tk, I.rq.mono (off_sub _ _), G1, G2, fun H5 s5 => ⟨_, rfl, iteF ?_⟩⟩
      exact ⟨_, rfl, I.same s5⟩
    · rintro σ H2 ⟨e, rfl, I⟩
      refine ⟨_, rfl, _, rfl, _, rfl, X.rl, X.fl, X.sl, X.gs1, X.gs2, rfl, I.rq.mono (off_sub _ _), I.f1.mono (off_sub _ _), I.f2.mono (off_sub _ _), G1.ok, G2.ok, fun H' s' => k H'⟩
end
end K13

set_option Elab.async false
set_option linter.all false
set_option maxRecDepth 100000
set_option maxHeartbeats 0
/-! the head: the top by one kernel run, the facts by the Hook -/
namespace K13
open PySem PySem.W PySem.Calls PyProof.Rows
abbrev RR : OpenRow := OpenLaw.row PySem.Challenge.rw_hopkeep_k13_whole_checks_tell_versions
def loose1 : List PySem.Str := ["_wall", "HopError", "InvalidValue", "InvalidMark", "DIGITS", "LETTERS", "NAME_SIGNS", "PATH_SIGNS", "MOST_DIGITS", "MOST_NAME", "MOST_PATH", "MOST_VALUE", "LENGTH_NAME", "PERCENT_CODE", "is_plain_sign", "is_plain", "consists_of", "is_path", "is_field_name", "is_value", "list_elements", "read_number", "read_reading", "MARK_SIGNS", "MOST_SIGNS", "STAR", "is_mark_text", "Mark", "MarkList", "settled"]
def loose2 : List PySem.Str := ["Current", "optional_marks", "optional_reading", "Conditions", "without_own", "checking", "is_body_text", "Message", "Request", "_law_bag", "_law_take", "_law_letter", "_law_truth", "_law_text", "_law_world", "_law_shown", "_law_is_settled", "_law_grow", "_law_step", "_law_tag", "_law_note", "_law_unchanged", "_law_due", "_law_checks", "_law_truth_of_settled", "_law_fields", "_law_stay"]
def loose : List PySem.Str := loose1 ++ loose2
def ob (s : SharedT) : AlC := obsCG 6 (HandSHeadRun.getT s)
theorem ob_eq (s : SharedT) : ob s = (hookC 6).obs s.abs := obsCG_eq (HandSHeadRun.getT_eq s)
theorem run (w : World) : HandSHeadRun.RunEq RR (view RR.prog [63]) (hookC 6) ob 12000 loose w := by
  intro os
  kernel_rfl
end K13

set_option Elab.async false
set_option linter.all false
set_option maxRecDepth 100000
set_option maxHeartbeats 0
/-! the end -/
namespace K13
open PySem PySem.Spec PyProof.Rows L2 SX
theorem law_facts {w : World} {K : PySem.W.Frag} {h : Heap} {mg : Str → Option Value} {fa : Addr} (X : K.In h) (G : h.Ns mainGlobals mg) (hfa : mg ("law" : Str) = some (.ref fa)) (c : SaysC K) :
    ∃ fd : FuncData, (∀ (s : Shared) (v : Value), BindsTo s fd ⟨[v], []⟩ [("_law_script", v)]) ∧ ∀ base : Heap, K.In base → base.Ns mainGlobals mg → FnOk PP w K mg base CX0 12 fa fd ["_law_script"] (spLaw K) := by
  have T : Tx K mg := ⟨c, h, X, G⟩
  obtain ⟨fd, F⟩ := T.says.def_ (d := d_law) 34 rfl
  have e := hfa.symm.trans (T.glo "law")
  cases e
  have b := FunD.bindsA (ps := ["_law_script"]) F fun _ _ _ _ _ _ us hl => match us, hl with | [_], _ => rfl
  refine ⟨fd, fun s v => b s [v] rfl, fun base _ _ => F.ok sc_law (fun vs H Q E h => ?_) (fun cdv A outer s H vs Q E hr h => ?_)⟩
  · obtain ⟨_, _, rfl, _⟩ := h
    rfl
  · obtain ⟨t, p, q⟩ := b_law (w := w) (base := base) T cdv A outer s H vs Q E hr h
    exact ⟨t, p.nox, q⟩
end K13
open PySem PySem.W PySem.Calls PyProof.Rows
theorem PySem.Challenge.cw_hopkeep_k13_whole_checks_tell_versions_holds : PySem.Challenge.rw_hopkeep_k13_whole_checks_tell_versions.Holds := by
  w_on; o_law
  refine HandSHeadRun.head_any (r := OpenLaw.row PySem.Challenge.rw_hopkeep_k13_whole_checks_tell_versions) (q := view (OpenLaw.row PySem.Challenge.rw_hopkeep_k13_whole_checks_tell_versions).prog [63]) (H := K13.hookC 6) (ob := K13.ob) (M := 12000) (loose := K13.loose)
    (d := HandSHeadRun.topDef (OpenLaw.row PySem.Challenge.rw_hopkeep_k13_whole_checks_tell_versions).prog 63) (kwd := []) K13.ob_eq
    (by kernel_rfl) (fun s => by kernel_rfl) K13.run (by kernel_rfl) (by kernel_rfl) (by kernel_rfl) (by rfl) (by first | assumption | decide +kernel) (by decide +kernel) ⟨rfl, rfl, rfl, rfl, rfl, by decide +kernel⟩ ?hw ?hc
  case hw => w_witness2
  case hc =>
    refine L2.walk_ofE (l := PySem.Challenge.rw_hopkeep_k13_whole_checks_tell_versions) (n := 63) (k := 12) (x := "_law_script") (CX := L2.CX0) rfl (by decide) (by kernel_rfl) ⟨rfl, by decide, by decide⟩ ?F (fun _ _ _ _ z => z)
    intro w mg fa h Y G hmg0
    obtain ⟨K, KX, c⟩ := Y
    have hmg : mg ("law" : PySem.Str) = some (.ref fa) := by
      have e : (HandSHeadRun.topDef (OpenLaw.row PySem.Challenge.rw_hopkeep_k13_whole_checks_tell_versions).prog 63).name = ("law" : PySem.Str) := by kernel_rfl
      rw [← e]
      exact hmg0
    obtain ⟨fd, hb, hF⟩ := K13.law_facts (w := w) KX G hmg c
    exact ⟨K, fd, K13.spLaw K, KX, hb, fun H a ns hl _ hS => ⟨a, ns, rfl, hS, fun _ => rfl⟩, hF⟩
