import PyProof.Rows.All
import Wide.All
import OpenK.AllK
import Wide.FinOn
import HandS.ForMost
import HandS.More
import HandS.Exc
import HandS.ExcCtx
import HandS.ExcOwn
import HandS.ExcInit
import HandS.ExcField
import HandS.HotCalls
import HandS.ExcInitHot
import HandS.TryMany
import HandS.FStr
import HandS.Style
import HandS.Flow
import HandS.Defaults
import HandS.MakeKw
import HandS.MakeKwOnly
import HandS.Property
import HandS.IsInst
import HandS.Codes
import HandS.IntHex
import HandS.StrMore
import HandS.Evl
import HandS.Walk
import HandS.Deep
import HandS.Set
import HandS.SetBool
import KE.IntTextLaws
import KE.DataEq
import KE.KStateDown
import HandS.Base
import HandS.Call
import HandS.Ends
import HandS.Words
import HandS.WordsExc
import HandS.Head0
import HandS.Head1
import HandS.Head2
import HandS.HeadEnd
import HandS.HeadHook1
import HandS.HeadHook2
import HandS.HeadHook3
import PySem.Challenge.RW_chunkletters_k32_whole_octet_by_octet
set_option Elab.async false
set_option linter.all false
set_option maxRecDepth 100000
set_option maxHeartbeats 0
/-! ## Common ground: rules for calls by promises, own exceptions, try with two clauses -/
namespace K32
open PySem PySem.Spec PyProof.Rows L2
abbrev St := L2.St
def top (i : Nat) : Stmt := PySem.Challenge.pw_chunkletters_k32_whole_octet_by_octet.main.body.getD i (.Pass ⟨0, 0, 0, 0⟩)

/-! ### promises of defs -/
structure Has (CX : CXT) (P : Program) (w : World) (K : PySem.W.Frag) (mg : Str → Option Value) (base : Heap) (x : Str) (k : Nat) (ps : List Str) (sp : Sp) : Prop where
  ex : ∃ f fd, mg x = some (.ref f) ∧ PySem.W.keepIn K (.ref f) = true ∧ Binds K fd ps [] ∧ FnOk P w K mg base CX k f fd ps sp
structure HasH (CX : CXT) (P : Program) (w : World) (K : PySem.W.Frag) (mg : Str → Option Value) (base : Heap) (x : Str) (k : Nat) (ps : List Str) (sp : Sp) : Prop where
  ex : ∃ f fd, mg x = some (.ref f) ∧ PySem.W.keepIn K (.ref f) = true ∧ Binds K fd ps [] ∧ L2H.FnH P w K mg base CX k f fd ps sp
structure HasM (CX : CXT) (P : Program) (w : World) (K : PySem.W.Frag) (mg : Str → Option Value) (base : Heap) (C : Addr) (m : Str) (k : Nat) (ps : List Str) (sp : Sp) : Prop where
  ex : ∃ f fd, Meth K C m f ∧ Binds K fd ps [] ∧ FnOk P w K mg base CX k f fd ps sp
structure HasMH (CX : CXT) (P : Program) (w : World) (K : PySem.W.Frag) (mg : Str → Option Value) (base : Heap) (C : Addr) (m : Str) (k : Nat) (ps : List Str) (sp : Sp) : Prop where
  ex : ∃ f fd, Meth K C m f ∧ Binds K fd ps [] ∧ L2H.FnH P w K mg base CX k f fd ps sp
/-- with keywords ks behind n positional values, all written, in the parameters' order -/
structure HasK (CX : CXT) (P : Program) (w : World) (K : PySem.W.Frag) (mg : Str → Option Value) (base : Heap) (x : Str) (k n : Nat) (ks : List Str) (sp : Sp) : Prop where
  ex : ∃ f fd ps, mg x = some (.ref f) ∧ PySem.W.keepIn K (.ref f) = true ∧ KBn K fd ps n ks (fun us ws => us ++ ws) (fun vs zs => vs ++ zs) ∧ FnOk P w K mg base CX k f fd ps sp
structure HasMK (CX : CXT) (P : Program) (w : World) (K : PySem.W.Frag) (mg : Str → Option Value) (base : Heap) (C : Addr) (m : Str) (k n : Nat) (ks : List Str) (sp : Sp) : Prop where
  ex : ∃ f fd ps, Meth K C m f ∧ KBn K fd ps n ks (fun us ws => us ++ ws) (fun vs zs => vs ++ zs) ∧ FnOk P w K mg base CX k f fd ps sp
abbrev EN : St → XK := fun _ _ _ _ => False
theorem paN {X : Cx} : ∀ σ : St, PassesAt CX0 X σ (EN σ) := fun _ _ _ _ _ _ _ h => h.elim
/-- of a def that may raise, where it is known that it does not -/
theorem paX {X : Cx} : ∀ σ : St, PassesAt (L2N.CX X.prog X.w) X σ (EN σ) := fun _ _ _ _ _ _ _ h => by
  obtain ⟨_, _, _, _, _, _, _, _, _, _, _, _, z⟩ := h
  exact z.elim
section
variable {X : Cx} {CX : CXT} {k n : Nat} {C : Addr} {ps ks : List Str} {sp : Sp} {E : St → XK} {x m : Str} {q pos apos : Pos} {e o : Expr} {es : List Expr} {ta : TE} {t tk : TA} {kws : List Keyword}
theorem pe_fn (h : Has CX X.prog X.w X.K X.mg X.base x k ps sp) (hr : Room k X.A) (hx : ∀ σ, PassesAt CX X σ (E σ)) (ha : PA X (e :: es) t) (hg : Gl X x := by rfl)
    (hdb : (x == ("__debug__" : Str)) = false := by decide) (he : starEach (e :: es) X.env = (false, eval e X.env) :: starEach es X.env := by rfl) (hpl : (backTo pos (starEach es X.env)).any (·.1) = false := by rfl) :
    PE X (.Call (.Name x q) (e :: es) [] pos) (tCallS sp E t) := by
  obtain ⟨f, fd, hm, hk, hb, F⟩ := h.ex
  exact pe_callS F hr hg hm hk hb hx ha hdb he hpl
theorem pe_fnH (h : HasH CX X.prog X.w X.K X.mg X.base x k ps sp) (hr : L2H.RoomH k X.A) (hc : L2H.HotC X) (hx : ∀ σ, PassesAt CX X σ (E σ)) (ha : PA X (e :: es) t) (hg : Gl X x := by rfl)
    (hdb : (x == ("__debug__" : Str)) = false := by decide) (he : starEach (e :: es) X.env = (false, eval e X.env) :: starEach es X.env := by rfl) (hpl : (backTo pos (starEach es X.env)).any (·.1) = false := by rfl) :
    PE X (.Call (.Name x q) (e :: es) [] pos) (tCallS sp E t) := by
  obtain ⟨f, fd, hm, hk, hb, F⟩ := h.ex
  exact L2H.pe_callH F hr hc hg hm hk hb hx ha hdb he hpl
theorem run_fnS2 {pins : List (Addr × Obj)} {σ : St} {H : Hp} {s : Shared} {Q : VK} {f : Addr} {fd : FuncData} {us ws : List Value} {vs zs : List V} {g : List Value → List Value → List Value} {gV : List V → List V → List V} (F : FnOk X.prog X.w X.K X.mg X.base CX k f fd ps sp)
    (hr : Room k X.A) (hb : KBn X.K fd ps n ks g gV) (hx : PassesAt CX X σ (E σ)) (I : Inv X pins σ H s) (r : Vals vs us) (rz : Vals zs ws) (l1 : vs.length = n) (l2 : zs.length = ks.length) (h : sp (gV vs zs) H Q (E σ)) :
    wpAny (model X.prog X.w) X.A (call (.ref f) us (ks.zip ws)) (EP X pins σ Q) X.xe s := by
  have r2 := hb.rel r rz
  refine wpAny_call (codeAny_mono (F.run X.A X.stack s H ⟨us, ks.zip ws⟩ (g us ws) (gV vs zs) Q (E σ) hr I.env0 (hb.to s us ws I.kIn (r.length.symm.trans l1) (rz.length.symm.trans l2)) r2 h) fun r s' hq => ?_)
  cases r with
  | error e => exact hx pins H s e s' I hq
  | ok fl =>
    cases fl with
    | ret u => exact I.after hq
    | next => exact False.elim hq
    | brk => exact False.elim hq
    | cont => exact False.elim hq
def tCallKS (n m : Nat) (sp : Sp) (E : St → XK) (t tk : TA) : TE := fun σ H Q => t σ H fun vs H1 => tk σ H1 fun zs H2 => vs.length = n ∧ zs.length = m ∧ sp (vs ++ zs) H2 Q (E σ)
/-- f(e, .., k = v, ..) -/
theorem pe_fnK (h : HasK CX X.prog X.w X.K X.mg X.base x k n ks sp) (hr : Room k X.A) (hx : ∀ σ, PassesAt CX X σ (E σ)) (ha : PA X (e :: es) t) (hkw : PK X kws tk) (hg : Gl X x := by rfl)
    (hall : (backToKw pos (keywordEach kws X.env)).all (·.1.isSome) = true := by rfl) (hks : (backToKw pos (keywordEach kws X.env)).filterMap (·.1) = ks := by rfl)
    (hdb : (x == ("__debug__" : Str)) = false := by decide) (he : starEach (e :: es) X.env = (false, eval e X.env) :: starEach es X.env := by rfl)
    (hpl : ((backTo pos (starEach (e :: es) X.env)).any (·.1) || (backToKw pos (keywordEach kws X.env)).any (·.1.isNone)) = false := by rfl) :
    PE X (.Call (.Name x q) (e :: es) kws pos) (tCallKS n ks.length sp E t tk) := by
  obtain ⟨f, fd, ps, hm, hk, hb, F⟩ := h.ex
  refine ⟨fun pins s σ H Q I h => ?_⟩
  refine wpAny_Call_Name_kw (ld_glob I hg hm ?_ hdb)
  refine PySem.W.callWith_KW (h₀ := X.base) I.ok.mod.kin hk hall (thn (ha.run pos pins s σ H _ I h) fun us s1 ⟨vs, H1, I1, r, q⟩ => ?_) hpl he
  refine thn (hkw.run pos pins s1 σ H1 _ I1 q) fun ws s2 ⟨zs, H2, I2, rz, l1, l2, q2⟩ => ⟨I2.kIn, ?_⟩
  rw [hks]
  exact run_fnS2 F hr hb (hx σ) I2 r rz l1 l2 q2
/-- o.m(e, ..) -/
theorem pe_mt {pl : Sem Bool} (he : PE X o ta) (c : Cls X.K C) (h : HasM CX X.prog X.w X.K X.mg X.base C m k ps sp) (hr : Room k X.A) (hx : ∀ σ, PassesAt CX X σ (E σ)) (ha : PA X (e :: es) t)
    (hst : starEach (e :: es) X.env = (false, eval e X.env) :: starEach es X.env := by rfl) (hpl : (backTo pos (starEach es X.env)).any (·.1) = false := by rfl)
    (ht : eval (.Call (.Attribute o m apos) (e :: es) [] pos) X.env = (do
      let ov ← eval o X.env
      standAt apos.atName
      let (f, first) ← holding [ov] (getMethod ov m pl)
      callWith pos f first (backTo pos (starEach (e :: es) X.env)) (backToKw pos (keywordEach [] X.env))) := by rfl) :
    PE X (.Call (.Attribute o m apos) (e :: es) [] pos) (L2H.tMethH C m sp E ta t) := by
  obtain ⟨f, fd, hm, hb, F⟩ := h.ex
  refine ⟨fun pins s σ H Q I h => ?_⟩
  refine PySem.W.methodCall_KW (pl := pl) (thn (he.run pins s σ H _ I h) fun u s1 ⟨x, H1, I1, rx, a, dx, fs, ex, ea, l, q⟩ => ?_) ht
  subst ex
  obtain rfl : u = Value.ref a := rx
  refine getmeth_ok I1 ea c hm l ?_
  refine PySem.W.callWith_K (first := [.ref a]) (h₀ := X.base) I.ok.mod.kin hm.kp (thn (ha.run pos pins s1 σ H1 _ I1 q) fun us s2 ⟨vs, H2, I2, r, q2⟩ => ⟨I2.kIn, ?_⟩) hst hpl
  exact run_fnS (us := .ref a :: us) (vs := .ref a :: vs) F hr hb (hx σ) I2 (.cons rfl r) q2
theorem pe_mtH {pl : Sem Bool} (he : PE X o ta) (c : Cls X.K C) (h : HasMH CX X.prog X.w X.K X.mg X.base C m k ps sp) (hr : L2H.RoomH k X.A) (hc : L2H.HotC X) (hx : ∀ σ, PassesAt CX X σ (E σ)) (ha : PA X (e :: es) t)
    (hst : starEach (e :: es) X.env = (false, eval e X.env) :: starEach es X.env := by rfl) (hpl : (backTo pos (starEach es X.env)).any (·.1) = false := by rfl)
    (ht : eval (.Call (.Attribute o m apos) (e :: es) [] pos) X.env = (do
      let ov ← eval o X.env
      standAt apos.atName
      let (f, first) ← holding [ov] (getMethod ov m pl)
      callWith pos f first (backTo pos (starEach (e :: es) X.env)) (backToKw pos (keywordEach [] X.env))) := by rfl) :
    PE X (.Call (.Attribute o m apos) (e :: es) [] pos) (L2H.tMethH C m sp E ta t) := by
  obtain ⟨f, fd, hm, hb, F⟩ := h.ex
  exact L2H.pe_methH (pl := pl) he c hm F hr hc hb hx ha hst hpl ht
/-- o.m() -/
def tMeth0S (C : Addr) (m : Str) (sp : Sp) (E : St → XK) (ta : TE) : TE := fun σ H Q => ta σ H fun x H1 => ∃ a dx fs, x = .ref a ∧ H1 a = some (.ins C dx fs) ∧ fs.lookup m = none ∧ sp [x] H1 Q (E σ)
theorem pe_mt0 {pl : Sem Bool} (he : PE X o ta) (c : Cls X.K C) (h : HasM CX X.prog X.w X.K X.mg X.base C m k ps sp) (hr : Room k X.A) (hx : ∀ σ, PassesAt CX X σ (E σ))
    (ht : eval (.Call (.Attribute o m apos) [] [] pos) X.env = (do
      let ov ← eval o X.env
      standAt apos.atName
      let (f, first) ← holding [ov] (getMethod ov m pl)
      callWith pos f first (backTo pos (starEach [] X.env)) (backToKw pos (keywordEach [] X.env))) := by rfl) :
    PE X (.Call (.Attribute o m apos) [] [] pos) (tMeth0S C m sp E ta) := by
  obtain ⟨f, fd, hm, hb, F⟩ := h.ex
  refine ⟨fun pins s σ H Q I h => ?_⟩
  refine PySem.W.methodCall_KW (pl := pl) (thn (he.run pins s σ H _ I h) fun u s1 ⟨x, H1, I1, rx, a, dx, fs, ex, ea, l, q⟩ => ?_) ht
  subst ex
  obtain rfl : u = Value.ref a := rx
  refine getmeth_ok I1 ea c hm l ?_
  exact PySem.W.callWith_K0 (first := [.ref a]) I1.kIn hm.kp (run_fnS (us := [.ref a]) (vs := [.ref a]) F hr hb (hx σ) I1 (.cons rfl .nil) q)
/-- o.m(e, .., k = v, ..) -/
def tMethKS (C : Addr) (m : Str) (n l : Nat) (sp : Sp) (E : St → XK) (ta : TE) (t tk : TA) : TE := fun σ H Q => ta σ H fun x H1 => ∃ a dx fs, x = .ref a ∧ H1 a = some (.ins C dx fs) ∧ fs.lookup m = none ∧
  t σ H1 fun vs H2 => tk σ H2 fun zs H3 => vs.length + 1 = n ∧ zs.length = l ∧ sp (x :: vs ++ zs) H3 Q (E σ)
theorem pe_mtK {pl : Sem Bool} (he : PE X o ta) (c : Cls X.K C) (h : HasMK CX X.prog X.w X.K X.mg X.base C m k n ks sp) (hr : Room k X.A) (hx : ∀ σ, PassesAt CX X σ (E σ)) (ha : PA X (e :: es) t) (hkw : PK X kws tk)
    (hall : (backToKw pos (keywordEach kws X.env)).all (·.1.isSome) = true := by rfl) (hks : (backToKw pos (keywordEach kws X.env)).filterMap (·.1) = ks := by rfl)
    (hst : starEach (e :: es) X.env = (false, eval e X.env) :: starEach es X.env := by rfl)
    (hpl : ((backTo pos (starEach (e :: es) X.env)).any (·.1) || (backToKw pos (keywordEach kws X.env)).any (·.1.isNone)) = false := by rfl)
    (ht : eval (.Call (.Attribute o m apos) (e :: es) kws pos) X.env = (do
      let ov ← eval o X.env
      standAt apos.atName
      let (f, first) ← holding [ov] (getMethod ov m pl)
      callWith pos f first (backTo pos (starEach (e :: es) X.env)) (backToKw pos (keywordEach kws X.env))) := by rfl) :
    PE X (.Call (.Attribute o m apos) (e :: es) kws pos) (tMethKS C m n ks.length sp E ta t tk) := by
  obtain ⟨f, fd, ps, hm, hb, F⟩ := h.ex
  refine ⟨fun pins s σ H Q I h => ?_⟩
  refine PySem.W.methodCall_KW (pl := pl) (thn (he.run pins s σ H _ I h) fun u s1 ⟨x, H1, I1, rx, a, dx, fs, ex, ea, l, q⟩ => ?_) ht
  subst ex
  obtain rfl : u = Value.ref a := rx
  refine getmeth_ok I1 ea c hm l ?_
  refine PySem.W.callWith_KW (first := [.ref a]) (h₀ := X.base) I.ok.mod.kin hm.kp hall (thn (ha.run pos pins s1 σ H1 _ I1 q) fun us s2 ⟨vs, H2, I2, r, q2⟩ => ?_) hpl hst
  refine thn (hkw.run pos pins s2 σ H2 _ I2 q2) fun ws s3 ⟨zs, H3, I3, rz, l1, l2, q3⟩ => ⟨I3.kIn, ?_⟩
  rw [hks]
  exact run_fnS2 (us := .ref a :: us) (vs := .ref a :: vs) F hr hb (hx σ) I3 (.cons rfl r) rz l1 l2 q3
end
end K32
namespace K32
open PySem PySem.Spec PyProof.Rows L2
/-! ### own exceptions with an __init__: BadLine, BadFrame -/
/-- an own exception class with an __init__ of its own, its field read -/
structure ExcT (K : PySem.W.Frag) (C fI : Addr) : Prop where
  oex : OexC K C
  xf : XfC K C
  ini : PySem.W.findIn K (.ref C) "__init__" = some (some (.ref fI))
  ty : PySem.W.typeIn K (.ref fI) = some (.type "function")
  nk : PySem.W.findIn K (.ref C) "kind" = some none
/-- what __init__ promises: the field kind is stored -/
def spKind (C : Addr) : Sp := fun vs H Q _ => ∃ (a : Addr) (z : Str), vs = [.ref a, .str z] ∧ z.length ≤ 100 ∧ H a = some (exo a C none) ∧
  ∀ d H', H d = none → d ≠ a → H' = upd (upd H d (exd d [(("kind" : Str), .str z)])) a (exo a C (some d)) → Q .non H'
structure ExcH (P : Program) (w : World) (K : PySem.W.Frag) (mg : Str → Option Value) (base : Heap) (x : Str) (C : Addr) : Prop where
  ex : ∃ fI fd, mg x = some (.ref C) ∧ ExcT K C fI ∧ Binds K fd ["self", "kind"] [] ∧ FnOk P w K mg base CX0 1 fI fd ["self", "kind"] (spKind C)
section
variable {X : Cx} {C : Addr} {e : Expr} {te : TE} {x : Str} {p pos pos2 : Pos} {W : WX}
/-- raise x(e): a new dict, the field in it -/
def tKind (C : Addr) (te : TE) : St → Hp → XK → Prop := fun σ H Q => te σ H fun v H1 => ∃ z : Str, v = .str z ∧ z.length ≤ 100 ∧
  ∀ d H2, H1 d = none → Evl.Ex H1 H2 → H2 d = some (.xd [(("kind" : Str), .str z)]) → Q (.ref C) (some d) H2
theorem pmk_kind (h : ExcH X.prog X.w X.K X.mg X.base x C) (hr : Room 2 X.A) (ha : PE X e te) (hg : Gl X x := by rfl) (hdb : (x == ("__debug__" : Str)) = false := by decide)
    (he : starEach [e] X.env = (false, eval e X.env) :: starEach [] X.env := by rfl) (hpl : (backTo pos (starEach [] X.env)).any (·.1) = false := by rfl) :
    L2N.PMk X (.Call (.Name x p) [e] [] pos) (tKind C te) := by
  obtain ⟨fI, fd, hm, T, hb, F1⟩ := h.ex
  intro pins s σ H Q I h
  obtain ⟨nm, q, N, bs, bm, sn, sub, ab, col, dd, k0, k1, k2, k3, k5, hC, hbm⟩ := T.oex.cls
  have hp1 : PA X [e] (tCons te tNil) := pa_cons ha pa_nil he
  refine wpAny_Call_Name_kw (ld_glob I hg hm ?_ hdb)
  have h' : tCons te tNil σ H fun vs H1 => ∃ z : Str, vs = [.str z] ∧ z.length ≤ 100 ∧ ∀ d H2, H1 d = none → Evl.Ex H1 H2 → H2 d = some (.xd [(("kind" : Str), .str z)]) → Q (.ref C) (some d) H2 := by
    have hmono : ∀ (Q1 Q2 : VK), (∀ v H1, Q1 v H1 → Q2 v H1) → True := fun _ _ _ => trivial
    show te σ H fun v H1 => ∃ z : Str, [v] = [V.str z] ∧ z.length ≤ 100 ∧ ∀ d H2, H1 d = none → Evl.Ex H1 H2 → H2 d = some (.xd [(("kind" : Str), .str z)]) → Q (.ref C) (some d) H2
    have hh : (fun v H1 => ∃ z : Str, [v] = [V.str z] ∧ z.length ≤ 100 ∧ ∀ d H2, H1 d = none → Evl.Ex H1 H2 → H2 d = some (.xd [(("kind" : Str), .str z)]) → Q (.ref C) (some d) H2) =
        (fun (v : V) (H1 : Hp) => ∃ z : Str, v = .str z ∧ z.length ≤ 100 ∧ ∀ d H2, H1 d = none → Evl.Ex H1 H2 → H2 d = some (.xd [(("kind" : Str), .str z)]) → Q (.ref C) (some d) H2) := by
      funext v H1
      simp only [List.cons.injEq, and_true]
    rw [hh]
    exact h
  refine PySem.W.callWith_K (h₀ := X.base) I.ok.mod.kin T.oex.kC (thn (hp1.run pos pins s σ H _ I h') fun us s1 ⟨vs, H1, I1, r1, z, ev, hz, q1⟩ => ⟨I1.kIn, ?_⟩) he hpl
  subst ev
  show wpAny _ _ (call (.ref C) us) _ _ _
  obtain ⟨hp, g, dr, tk, os⟩ := s1
  have hsz : hp.objs.size ≤ hp.objs.size + 1 := Nat.le_succ _
  have hn : H1 (hp.objs.size + 1) = none := I1.hok.fresh hsz
  have kk : ∀ b o, hp.get? b = some o → ((hp.push (PySem.W.kdv_tup us)).push (PySem.HandSPX.excO C hp.objs.size)).get? b = some o := fun b o e => Heap.get?_push_of_some _ (Heap.get?_push_of_some _ e)
  have hget : ((hp.push (PySem.W.kdv_tup us)).push (PySem.HandSPX.excO C hp.objs.size)).get? (hp.objs.size + 1) = some (PySem.HandSPX.excO C hp.objs.size) := by heap_get
  have I2 : Inv X pins σ (upd H1 (hp.objs.size + 1) (exo (hp.objs.size + 1) C none)) ⟨(hp.push (PySem.W.kdv_tup us)).push (PySem.HandSPX.excO C hp.objs.size), g, dr, tk, os⟩ :=
    I1.laid (t' := tk) (a := hp.objs.size + 1) (o := exo (hp.objs.size + 1) C none) (h' := (hp.push (PySem.W.kdv_tup us)).push (PySem.HandSPX.excO C hp.objs.size)) kk hsz (exo_ok hget)
  have r2 : Vals [V.ref (hp.objs.size + 1), V.str z] (Value.ref (hp.objs.size + 1) :: us) := .cons rfl r1
  have hl : us.length = 1 := r1.length.symm
  have hus : us.length ≤ sizeLine := by
    rw [hl, sizeLine_eq]
    omega
  have b2 := hb _ (Value.ref (hp.objs.size + 1) :: us) I2.kIn (by show (us ++ []).length + 1 = 2; rw [List.append_nil, hl])
  rw [List.append_nil] at b2
  have hq : spKind C [V.ref (hp.objs.size + 1), V.str z] (upd H1 (hp.objs.size + 1) (exo (hp.objs.size + 1) C none))
      (fun v H2 => v = .non ∧ ∃ (d : Addr), H2 (hp.objs.size + 1) = some (exo (hp.objs.size + 1) C (some d)) ∧ H2 d = some (exd d [(("kind" : Str), .str z)]) ∧ H1 d = none ∧ Q (.ref C) (some d) (upd (del H2 (hp.objs.size + 1)) d (.xd [(("kind" : Str), .str z)]))) (fun _ _ _ => False) := by
    refine ⟨_, z, rfl, hz, upd_same, fun d H' hd da eH => ⟨rfl, d, ?_, ?_, ?_, ?_⟩⟩
    · rw [eH, upd_same]
    · rw [eH, upd_ne da, upd_same]
    · rw [upd_ne da] at hd
      exact hd
    · rw [upd_ne da] at hd
      refine q1 d _ hd ?_ upd_same
      intro b o hbo
      have h1 : b ≠ d := ne_of_none hbo hd
      have h2 : b ≠ hp.objs.size + 1 := ne_of_none hbo hn
      rw [upd_ne h1, del_ne h2, eH, upd_ne h2, upd_ne h1, upd_ne h2]
      exact hbo
  refine wpAny_call (PySem.HandSPX.call_own F.excBase_ValueError (fun Y => PySem.HandSPX.refsVE_contains Y bm hbm) (I1.kIn _ _ hC) (PySem.W.looks_findIn I1.kIn T.ini) (fun self => PySem.W.bind_fn I1.kIn self T.ty) hus
    (codeAny_mono (F1.run _ X.stack _ _ ⟨Value.ref (hp.objs.size + 1) :: us, []⟩ (Value.ref (hp.objs.size + 1) :: us) _ _ (fun _ _ _ => False) (hr.make C us []) (I2.env0.make C us []) b2 r2 hq) fun r s' hq' => ?_))
  cases r with
  | error er => exact hq'.elim
  | ok fl =>
    cases fl with
    | ret u =>
      obtain ⟨v, H2, os2, bare2, un2, hok2, rv, ev, d, ea, ed, hd1, q2⟩ := hq'
      subst ev
      obtain ⟨h2, g2, d2, t2, os'⟩ := s'
      obtain ⟨t0, G, J, kG, ge, hoe, na⟩ := mk_end0 (d2 := d2) (t2 := t2) I1 hsz kk un2 hok2 os2 bare2 ea ed hd1
      refine ⟨rv, hp.objs.size + 1, _, _, ⟨G, g2, d2, t2, os'⟩, _, .ref C, some d, rfl, J, kG, ge, hoe, ⟨rfl, rfl, fun vs hv => ?_⟩, rfl, rfl, na, rfl, bare2, raises_own T.oex.exC T.oex.tyC, q2⟩
      cases hv
      rfl
    | next => exact False.elim hq'
    | brk => exact False.elim hq'
    | cont => exact False.elim hq'
def tRaiseK (C : Addr) (W : WX) (te : TE) : TS := fun _ σ H => tKind C te σ H fun cls d H' => W cls d σ H'
theorem ps_raiseK (h : ExcH X.prog X.w X.K X.mg X.base x C) (hr : Room 2 X.A) (hc : X.calm = true) (tk : L2N.Takes X W) (ha : PE X e te) (hg : Gl X x := by rfl) (hdb : (x == ("__debug__" : Str)) = false := by decide)
    (he : starEach [e] X.env = (false, eval e X.env) :: starEach [] X.env := by rfl) (hpl : (backTo pos (starEach [] X.env)).any (·.1) = false := by rfl) :
    PS X (.Raise (some (.Call (.Name x p) [e] [] pos)) none pos2) (tRaiseK C W te) :=
  L2N.ps_raise hc tk (pmk_kind h hr ha hg hdb he hpl)
end
/-! ### try: body, except x1 as n: suite1, except x2 as n: suite2 -/
/-- the context behind a caught exception bears it -/
theorem hot_suite {X : Cx} {a : Addr} {oe : Obj} {cls : Value} {d : Option Addr} {pn : List (Addr × Obj)} (hz : L2N.Zn cls d oe) (hf : ∃ vs, oe.data = .fields vs) : L2H.HotC (X.suite a ((a, oe) :: pn)) := by
  obtain ⟨vs, hv⟩ := hf
  exact ⟨(a, oe), ⟨rfl, vs, hv, hz.2.2 vs hv⟩, List.mem_cons_self⟩
/-- what the clauses 'except x1 as n', 'except x2 as n' wish: slot i is n's -/
def wOne (K : PySem.W.Frag) (c : Value) (i : Nat) (ts : Addr → Value → Option Addr → TS) (D : Ends) (rest : WX) : WX := fun cls d σ H =>
  ∃ b, PySem.W.exmOne K cls c = some b ∧ (b = true → ∀ a, H a = none → ts a cls d { nx := fun σ' H' => D.nx (σ'.set i none) H', rt := D.rt, bk := fun σ' H' => D.bk (σ'.set i none) H', ct := fun σ' H' => D.ct (σ'.set i none) H' } (σ.set i (some (.ref a))) H) ∧
    (b = false → rest cls d σ H)
def wTwo (K : PySem.W.Frag) (c1 c2 : Value) (i : Nat) (ts1 ts2 : Addr → Value → Option Addr → TS) (Wout : WX) (D : Ends) : WX := wOne K c1 i ts1 D (wOne K c2 i ts2 D Wout)
section
variable {X : Cx} {x1 x2 n : Str} {c1 c2 : Value} {i : Nat} {body suite1 suite2 : List Stmt} {b1 b2 : Stmt} {np1 np2 pos1 pos2 pos : Pos} {tb : WX → TS} {ts1 ts2 : Addr → Value → Option Addr → TS} {Wout : WX}
theorem ps_try_two (hs : X.stack = X.env :: X.outer) (hf : X.env.frame = some X.env.locals) (hN : X.N.Nodup) (hi : X.N[i]? = some n) (hln : X.env.kindOf n = some .local) (hc1 : Names X x1 c1) (hc2 : Names X x2 c2) (tk : L2N.Takes X Wout)
    (hb : ∀ (W : WX) (pn : List (Addr × Obj)) (xe : Value → Shared → Prop), L2N.Takes (X.tr pn xe) W → PassesOwn (model X.prog X.w) X.A X.env xe → PSs (X.tr pn xe) body (tb W))
    (hsu1 : ∀ (a : Addr) (oe : Obj) (cls : Value) (d : Option Addr) (pn : List (Addr × Obj)), L2N.Zn cls d oe → (∃ vs, oe.data = .fields vs) → PSs (X.suite a ((a, oe) :: pn)) (b1 :: suite1) (ts1 a cls d))
    (hsu2 : ∀ (a : Addr) (oe : Obj) (cls : Value) (d : Option Addr) (pn : List (Addr × Obj)), L2N.Zn cls d oe → (∃ vs, oe.data = .fields vs) → PSs (X.suite a ((a, oe) :: pn)) (b2 :: suite2) (ts2 a cls d)) :
    PS X (.Try body [.ExceptHandler (some (.Name x1 np1)) (some n) (b1 :: suite1) pos1, .ExceptHandler (some (.Name x2 np2)) (some n) (b2 :: suite2) pos2] [] [] pos) (fun D σ H => tb (wTwo X.K c1 c2 i ts1 ts2 Wout D) D σ H) := by
  refine ⟨fun pins s σ H D I h => ?_⟩
  have ok := I.ok
  have hfr : X.A.frames = some (X.env :: X.outer) := by rw [ok.frames, hs]
  have hloc : Loc X.env.scope n := .inl hln
  refine wpAny_Try_except ?_
  refine wpAny_mono ((hb (wTwo X.K c1 c2 i ts1 ts2 Wout D) (X.pn ++ pins) (fun e s₁ => wpAny (model X.prog X.w) X.A (noteFrame e X.env) (fun _ s₂ => wpAny (model X.prog X.w) X.A (setFlight e none) (fun _ s₃ =>
    wpAny (model X.prog X.w) X.A (handleBy e X.env [.ExceptHandler (some (.Name x1 np1)) (some n) (b1 :: suite1) pos1, .ExceptHandler (some (.Name x2 np2)) (some n) (b2 :: suite2) pos2]) (SP X pins D) X.xe s₃) X.xe s₂) X.xe s₁) (fun u s' xx => ?_) PassesOwn.looking).run [] s σ H D (I.toTry _) h) (fun f s1 hsp => ?_) (fun e s1 he => he)
  · obtain ⟨a, B, sI, pins', σ', H', cls, d, rfl, J', nb, up, sky, na, os, ag, hw⟩ := xx
    have J : Inv X pins σ' H' sI := J'.ofTry ok
    have sky' : Sky B (X.env :: X.outer) a (L2N.Zn cls d) X.env.locals s'.heap := by rw [← hs]; exact sky
    show wpAny (model X.prog X.w) X.A (noteFrame (.ref a) X.env) _ _ _
    refine L2N.Sky.land L2N.Zn.steady hfr hf sky' fun h3 fl3 up3 => ?_
    have J3 : Inv X pins σ' H' { s' with heap := h3 } := J.landed nb fl3.1 (up.trans up3) os ag
    obtain ⟨oe3, vs3, he3, hz3, hd3⟩ := fl3.there
    have notFr : ∀ {h : Heap} {o : Obj} {vs : Array Value}, h.FunFrames B (X.env :: X.outer) → h.get? a = some o → o.data = .fields vs → a ∉ frs (X.env :: X.outer) := fun {h o vs} ff e dd hm => by
      obtain ⟨_, o', e', hnf⟩ := ff.mem hm
      rw [e] at e'; cases e'
      exact hnf _ dd
    have nfr := notFr fl3.2.2.1 he3 hd3
    have nL : a ≠ X.env.locals := fun z => nfr (List.mem_filterMap.mpr ⟨X.env, List.mem_cons_self, by rw [hf, z]⟩)
    have nF : a ∉ X.fs := fun hm => by
      obtain ⟨e, he, q⟩ := List.mem_filterMap.mp hm
      exact nfr (List.mem_filterMap.mpr ⟨e, List.mem_cons_of_mem _ he, q⟩)
    have S3 := J3.suite he3 hd3 na nL nF
    -- one clause
    have one : ∀ {x : Str} {c : Value} {np pos' : Pos} {b₀ : Stmt} {suite : List Stmt} {ts : Addr → Value → Option Addr → TS} {rest : WX} {hds : List ExceptHandler}, Names X x c →
        (∀ (a : Addr) (oe : Obj) (cls : Value) (d : Option Addr) (pn : List (Addr × Obj)), L2N.Zn cls d oe → (∃ vs, oe.data = .fields vs) → PSs (X.suite a ((a, oe) :: pn)) (b₀ :: suite) (ts a cls d)) →
        wOne X.K c i ts D rest cls d σ' H' → (rest cls d σ' H' → wpAny (model X.prog X.w) X.A (handleBy (.ref a) X.env hds) (SP X pins D) X.xe { s' with heap := h3 }) →
        wpAny (model X.prog X.w) X.A (handleBy (.ref a) X.env (.ExceptHandler (some (.Name x np)) (some n) (b₀ :: suite) pos' :: hds)) (SP X pins D) X.xe { s' with heap := h3 } := by
      intro x c np pos' b₀ suite ts rest hds hc hsu hw1 hrest
      obtain ⟨b, hb1, hyes, hno⟩ := hw1
      refine wpAny_handleBy_cons (codeAny_handlers_test ?_) (by intro q; cases q)
      have LT : PySem.W.Looks (model X.prog X.w) h3 (typeOf (.ref a)) cls := fun A Q E s k q => wpAny_typeOf_ref (k _ _ he3) (by rw [hz3.1]; exact q)
      have LM := PySem.W.exm_one (M := model X.prog X.w) (J3.kIn) LT hb1
      have test : ∀ {Q : Value → Shared → Prop} {E : Value → Shared → Prop}, Q c { s' with heap := h3 } → wpAny (model X.prog X.w) (X.A.mark (some (.ref a))) (eval (.Name x np) X.env) Q E { s' with heap := h3 } := fun {Q E} q => by
        obtain ⟨hg, hdbg, hm | ⟨hm, hv, hnn⟩⟩ := hc
        · exact ld_glob (X := X.suite a ((a, oe3) :: (X.pn ++ pins))) S3 hg hm q hdbg
        · exact ld_blt (X := X.suite a ((a, oe3) :: (X.pn ++ pins))) S3 hg hm hv q hnn hdbg
      refine test (LM.here ?_)
      cases b with
      | true =>
        refine codeAny_handlers_suite_as ?_
        refine HandSPX.lands_againZ fl3 fun h4 fl4 up4 => ?_
        have J4 : Inv X pins σ' H' { s' with heap := h4 } := J.landed nb fl4.1 ((up.trans up3).trans up4) os ag
        obtain ⟨oe4, vs4, he4, hz4, hd4⟩ := fl4.there
        have S4 := J4.suite he4 hd4 na nL nF
        refine store_ok (X := X.suite a ((a, oe4) :: (X.pn ++ pins))) (v := .ref a) S4 hN hi hloc rfl (fun s5 S5 => ?_) (.inr hln)
        refine wpAny_mono ((hsu a oe4 cls d (X.pn ++ pins) hz4 ⟨_, hd4⟩).run [] s5 _ H' _ S5 (hyes rfl a na)) (fun f s6 hsp => ?_) (fun _ _ z => False.elim z)
        have end_ : ∀ {σ6 : St} {H6 : Hp} {Q : Shared → Prop}, Inv (X.suite a ((a, oe4) :: (X.pn ++ pins))) [] σ6 H6 s6 → (∀ s7, Inv X pins (σ6.set i none) H6 s7 → Q s7) →
            wpAny (model X.prog X.w) X.A (do bindName X.env n .none; unbindBehindTheSuite X.env n pos') (fun _ s7 => Q s7) X.xe s6 := fun {σ6 H6 Q} S6 hq => gone_ok (S6.unsuite ok) hN hi hln hq
        cases f with
        | next =>
          obtain ⟨σ6, H6, S6, q6⟩ := hsp
          exact end_ S6 fun s7 J7 => ⟨_, _, J7, q6⟩
        | brk =>
          obtain ⟨σ6, H6, S6, q6⟩ := hsp
          exact end_ S6 fun s7 J7 => ⟨_, _, J7, q6⟩
        | cont =>
          obtain ⟨σ6, H6, S6, q6⟩ := hsp
          exact end_ S6 fun s7 J7 => ⟨_, _, J7, q6⟩
        | ret u =>
          obtain ⟨v6, σ6, H6, S6, r6, q6⟩ := hsp
          exact end_ S6 fun s7 J7 => ⟨_, _, _, J7, r6, q6⟩
      | false => exact hrest (hno rfl)
    refine one hc1 hsu1 hw fun hw2 => one hc2 hsu2 hw2 fun hno => ?_
    show wpAny _ X.A (handleBy (.ref a) X.env []) _ _ _
    refine wpAny_handleBy_nil ?_
    obtain ⟨k1, k2, k3, oe, vs, T, oT, ts', he, hz, hd, h1, hr⟩ := id fl3
    unfold PySem.passOn
    refine wpAny_bind (wpAny_field he hd h1 ?_)
    rw [if_neg (show ¬ ((Value.ref T == Value.none) = true) from by simp)]
    have fin : wpAny (model X.prog X.w) X.A (setFlight (.ref a) X.env.frame) (fun _ s4 => wpAny (model X.prog X.w) X.A (throw (.ref a) : Sem Flow) (SP X pins D) X.xe s4) X.xe { s' with heap := h3 } := by
      rw [hf]
      refine HandSPX.setFlight_upZ fl3 fun h4 hh4 up4 => wpAny_throw (tk _ _ ?_)
      exact ⟨a, B, sI, pins, σ', H', cls, d, rfl, J, nb, (up.trans up3).trans up4, .inr (.inr (by rw [hs]; exact hh4)), na, os, ag, hno⟩
    first
      | exact wpAny_bind (wpAny_pure (wpAny_bind fin))
      | exact wpAny_bind fin
  · cases f with
    | next =>
      obtain ⟨σ', H', J', q⟩ := hsp
      exact wpAny_execs_nil ⟨σ', H', J'.ofTry ok, q⟩
    | brk =>
      obtain ⟨σ', H', J', q⟩ := hsp
      exact ⟨σ', H', J'.ofTry ok, q⟩
    | cont =>
      obtain ⟨σ', H', J', q⟩ := hsp
      exact ⟨σ', H', J'.ofTry ok, q⟩
    | ret u =>
      obtain ⟨v, σ', H', J', r, q⟩ := hsp
      exact ⟨v, σ', H', J'.ofTry ok, r, q⟩
end
end K32
namespace K32
open PySem PySem.Spec PyProof.Rows L2
/-! ### the text by places -/
abbrev s_BadLine_init : Stmt := inClass (top 4) 0
abbrev s_BadFrame_init : Stmt := inClass (top 6) 0
abbrev s_is_integer : Stmt := top 19
abbrev s_is_octet : Stmt := top 20
abbrev s_is_data : Stmt := top 21
abbrev s_is_line_octet : Stmt := top 22
abbrev s_shown : Stmt := top 23
abbrev s_line_text : Stmt := top 24
abbrev s_code_of : Stmt := top 25
abbrev s_octets : Stmt := top 26
abbrev s_is_within : Stmt := top 32
abbrev s_is_one_of : Stmt := top 33
abbrev s_Book_init : Stmt := inClass (top 34) 0
abbrev s_book_of : Stmt := top 36
abbrev s_joined : Stmt := top 56
abbrev s_Message_init : Stmt := inClass (top 57) 0
abbrev s_Message_asks_switch : Stmt := inClass (top 57) 1
abbrev s_is_string : Stmt := top 62
abbrev s_is_token : Stmt := top 63
abbrev s_read_field : Stmt := top 64
abbrev s_items_of : Stmt := top 65
abbrev s_has_field : Stmt := top 76
abbrev s_is_length : Stmt := top 77
abbrev s_frame_error : Stmt := top 78
abbrev s_plain_frame : Stmt := top 79
abbrev s_request_frame : Stmt := top 80
abbrev s_response_frame : Stmt := top 81
abbrev s_persists : Stmt := top 82
abbrev s_asks_upgrade : Stmt := top 83
abbrev s_has_version_form : Stmt := top 88
abbrev s_version_of : Stmt := top 89
abbrev s_read_request : Stmt := top 90
abbrev s_is_status_word : Stmt := top 91
abbrev s_read_status : Stmt := top 92
abbrev s_read_size : Stmt := top 93
abbrev s_Reader_init : Stmt := inClass (top 104) 0
abbrev s_Reader_look_open : Stmt := inClass (top 104) 3
abbrev s_Reader_feed : Stmt := inClass (top 104) 4
abbrev s_Reader_read_some : Stmt := inClass (top 104) 5
abbrev s_Reader_read_run : Stmt := inClass (top 104) 6
abbrev s_Reader_fail : Stmt := inClass (top 104) 7
abbrev s_Reader_read_octet : Stmt := inClass (top 104) 8
abbrev s_Reader_read_chunk_end : Stmt := inClass (top 104) 9
abbrev s_Reader_read_line_end : Stmt := inClass (top 104) 10
abbrev s_Reader_read_line : Stmt := inClass (top 104) 11
abbrev s_Reader_begin_chunk : Stmt := inClass (top 104) 12
abbrev s_Reader_read_start : Stmt := inClass (top 104) 13
abbrev s_Reader_read_field_line : Stmt := inClass (top 104) 14
abbrev s_Reader_end_head : Stmt := inClass (top 104) 15
abbrev s_Reader_begin_body : Stmt := inClass (top 104) 16
abbrev s_Reader_end_message : Stmt := inClass (top 104) 17
abbrev s_Reader_expect : Stmt := inClass (top 104) 19
abbrev s__law_bag : Stmt := top 106
abbrev s__law_take : Stmt := top 107
abbrev s__law_pick : Stmt := top 108
abbrev s__law_book : Stmt := top 109
abbrev s__law_line : Stmt := top 110
abbrev s__law_read : Stmt := top 111
abbrev s__law_fail : Stmt := top 112
abbrev s__law_next_line : Stmt := top 113
abbrev s__law_fields : Stmt := top 114
abbrev s__law_message : Stmt := top 115
abbrev s__law_data : Stmt := top 116
abbrev s__law_body : Stmt := top 117
abbrev s__law_chunks : Stmt := top 118
abbrev s__law_head : Stmt := top 119
abbrev s__law_lines_of : Stmt := top 120
abbrev s__law_framing : Stmt := top 121
abbrev s__law_chunked : Stmt := top 122
abbrev s__law_one : Stmt := top 123
abbrev s__law_spoilt_data : Stmt := top 124
abbrev s__law_stream : Stmt := top 125
abbrev s__law_asks : Stmt := top 126
abbrev s__law_reader : Stmt := top 127
abbrev s__law_start : Stmt := top 128
abbrev s__law_field : Stmt := top 129
abbrev s__law_frame : Stmt := top 130
abbrev s_law : Stmt := top 131
abbrev s_Reader_state : Stmt := inClass (top 104) 1
/-! ### what the top has written -/
/-- the addresses of the classes and tables -/
structure Adr where
  (BK MS RD BL BF EM VE : Addr)
def GV (mg : Str → Option Value) (x : Str) (v : V) : Prop := ∃ u, mg x = some u ∧ RelV v u
structure DefAt (K : PySem.W.Frag) (mg : Str → Option Value) (x : Str) (st : Stmt) (kws : List (Str × V)) : Prop where
  ex : ∃ f fd, mg x = some (.ref f) ∧ FunD K x x (defArgs st) (defBody st) (defScope st) [] kws f fd
structure MetAt (K : PySem.W.Frag) (C : Addr) (m qual : Str) (st : Stmt) (kws : List (Str × V)) : Prop where
  ex : ∃ f fd, Meth K C m f ∧ FunD K m qual (defArgs st) (defBody st) (defScope st) [] kws f fd
structure IniAt (K : PySem.W.Frag) (C : Addr) (qual : Str) (st : Stmt) (kws : List (Str × V)) : Prop where
  ex : ∃ f fd, Mk K C f ∧ FunD K "__init__" qual (defArgs st) (defBody st) (defScope st) [] kws f fd
structure ExiAt (K : PySem.W.Frag) (C : Addr) (qual : Str) (st : Stmt) : Prop where
  ex : ∃ f fd, ExcT K C f ∧ FunD K "__init__" qual (defArgs st) (defBody st) (defScope st) [] [] f fd
/-- the getter of a property -/
structure ProAt (K : PySem.W.Frag) (C : Addr) (m qual : Str) (st : Stmt) : Prop where
  ex : ∃ p g, PropOf K C m p g ∧ ∃ oc od kV doc pm an cdv ct osl, K.lookup g = some ⟨oc, od, .func (PySem.W.fnOf m qual (defArgs st) (defBody st) (defScope st) .none kV doc pm an cdv ct), osl⟩ ∧ PySem.W.codeIn K cdv qual = true
structure Txt (K : PySem.W.Frag) (w : World) (mg : Str → Option Value) (A : Adr) : Prop where
  c_CHARACTERS : GV mg "CHARACTERS" (.str " !\"#$&'()*+,-./0123456789:;<=>?@ABCDEFGHIJKLMNOPQRSTUVWXYZ[\\]^_`abcdefghijklmnopqrstuvwxyz{|}~")
  c_MOST_OCTETS : GV mg "MOST_OCTETS" (.int 4000)
  c_RETURN_octets : GV mg "RETURN_octets" (.int 13)
  c_FEED_octets : GV mg "FEED_octets" (.int 10)
  c_TAB : GV mg "TAB" (.int 9)
  c_PERCENT : GV mg "PERCENT" (.int 37)
  c_FIRST : GV mg "FIRST" (.int 32)
  c_LAST : GV mg "LAST" (.int 126)
  c_REFUSE : GV mg "REFUSE" (.str "refuse")
  c_CHUNKED_books : GV mg "CHUNKED_books" (.str "chunked")
  c_EQUAL : GV mg "EQUAL" (.str "equal")
  c_ACCEPT : GV mg "ACCEPT" (.str "accept")
  c_REQUEST : GV mg "REQUEST" (.str "request")
  c_RESPONSE : GV mg "RESPONSE" (.str "response")
  c_INFO_events : GV mg "INFO_events" (.str "info")
  c_DATA : GV mg "DATA" (.str "data")
  c_END : GV mg "END" (.str "end")
  c_RAW : GV mg "RAW" (.str "raw")
  c_CLOSE_events : GV mg "CLOSE_events" (.str "close")
  c_ERROR : GV mg "ERROR" (.str "error")
  c_REQUESTS : GV mg "REQUESTS" (.str "requests")
  c_RESPONSES : GV mg "RESPONSES" (.str "responses")
  c_START : GV mg "START" (.str "start")
  c_HEAD : GV mg "HEAD" (.str "head")
  c_BODY : GV mg "BODY" (.str "body")
  c_WAITING : GV mg "WAITING" (.str "waiting")
  c_SWITCHED : GV mg "SWITCHED" (.str "raw")
  c_OVER : GV mg "OVER" (.str "over")
  c_CLOSED : GV mg "CLOSED" (.str "closed")
  c_WRONG : GV mg "WRONG" (.str "wrong")
  c_LETTERS : GV mg "LETTERS" (.str "abcdefghijklmnopqrstuvwxyz")
  c_DIGITS : GV mg "DIGITS" (.str "0123456789")
  c_TOKEN_SIGNS : GV mg "TOKEN_SIGNS" (.str "!#$&'*+-.^_`|~")
  c_LENGTH_frames : GV mg "LENGTH_frames" (.str "length")
  c_CHUNKED_frames : GV mg "CHUNKED_frames" (.str "chunked")
  c_CLOSE_frames : GV mg "CLOSE_frames" (.str "close")
  c_INFO_frames : GV mg "INFO_frames" (.str "info")
  c_SWITCH : GV mg "SWITCH" (.str "switch")
  c_CODING_FIELD : GV mg "CODING_FIELD" (.str "transfer-encoding")
  c_LENGTH_FIELD : GV mg "LENGTH_FIELD" (.str "content-length")
  c_SWITCHING : GV mg "SWITCHING" (.int 101)
  c_HEXADECIMAL : GV mg "HEXADECIMAL" (.str "0123456789abcdef")
  c_MOST_SIZE_DIGITS : GV mg "MOST_SIZE_DIGITS" (.int 6)
  c_RETURN_reader : GV mg "RETURN_reader" (.int 13)
  c_FEED_reader : GV mg "FEED_reader" (.int 10)
  c_NONE : GV mg "NONE" (.str "")
  c_LENGTH_reader : GV mg "LENGTH_reader" (.str "length")
  c_SIZE : GV mg "SIZE" (.str "size")
  c_CHUNK : GV mg "CHUNK" (.str "chunk")
  c_CHUNK_END : GV mg "CHUNK_END" (.str "chunk end")
  c_TRAILERS : GV mg "TRAILERS" (.str "trailers")
  c_REST : GV mg "REST" (.str "rest")
  c_EMPTY : mg "EMPTY" = some (.ref A.EM)
  t_EMPTY : ∀ H, SqT K H A.EM [.int 204, .int 304]
  c_VERSIONS : mg "VERSIONS" = some (.ref A.VE)
  t_VERSIONS : ∃ es n, KDict K w A.VE es n
  v0 : ∃ u, PySem.W.nsIn K A.VE "HTTP/1.0" = some (some u) ∧ RelV (.int 0) u
  v1 : ∃ u, PySem.W.nsIn K A.VE "HTTP/1.1" = some (some u) ∧ RelV (.int 1) u
  vn : ∀ z : Str, z ≠ "HTTP/1.0" → z ≠ "HTTP/1.1" → PySem.W.nsIn K A.VE z = some none
  g_Book : mg "Book" = some (.ref A.BK)
  g_Message : mg "Message" = some (.ref A.MS)
  g_Reader : mg "Reader" = some (.ref A.RD)
  g_BadLine : mg "BadLine" = some (.ref A.BL)
  g_BadFrame : mg "BadFrame" = some (.ref A.BF)
  cl_Book : Cls K A.BK
  n_Book_both : NoAttr K A.BK "both"
  n_Book_lengths : NoAttr K A.BK "lengths"
  n_Book_old_chunked : NoAttr K A.BK "old_chunked"
  n_Book_keep_old : NoAttr K A.BK "keep_old"
  n_Book_most_line : NoAttr K A.BK "most_line"
  n_Book_most_fields : NoAttr K A.BK "most_fields"
  n_Book_most_digits : NoAttr K A.BK "most_digits"
  cl_Message : Cls K A.MS
  n_Message_method : NoAttr K A.MS "method"
  n_Message_upgrade : NoAttr K A.MS "upgrade"
  n_Message_last : NoAttr K A.MS "last"
  cl_Reader : Cls K A.RD
  n_Reader_book : NoAttr K A.RD "book"
  n_Reader_kind : NoAttr K A.RD "kind"
  n_Reader_now : NoAttr K A.RD "now"
  n_Reader_part : NoAttr K A.RD "part"
  n_Reader_count : NoAttr K A.RD "count"
  n_Reader_line : NoAttr K A.RD "line"
  n_Reader_is_ending : NoAttr K A.RD "is_ending"
  n_Reader_start : NoAttr K A.RD "start"
  n_Reader_fields : NoAttr K A.RD "fields"
  n_Reader_left : NoAttr K A.RD "left"
  n_Reader_expected : NoAttr K A.RD "expected"
  n_Reader_message : NoAttr K A.RD "message"
  n_Reader_is_last : NoAttr K A.RD "is_last"
  n_Reader_skips_wait : NoAttr K A.RD "skips_wait"
  n_Reader_is_closed : NoAttr K A.RD "is_closed"
  is_Book : C8.InsC K A.BK
  x_LL : PySem.W.exmOne K (.ref A.BL) (.ref A.BL) = some true
  x_FL : PySem.W.exmOne K (.ref A.BF) (.ref A.BL) = some false
  x_FF : PySem.W.exmOne K (.ref A.BF) (.ref A.BF) = some true
  b_isinstance : mg "isinstance" = none
  b_int : mg "int" = none
  b_bool : mg "bool" = none
  b_len : mg "len" = none
  b_all : mg "all" = none
  b_list : mg "list" = none
  b_str : mg "str" = none
  b_enumerate : mg "enumerate" = none
  b_tuple : mg "tuple" = none
  b_min : mg "min" = none
  b_max : mg "max" = none
  b_abs : mg "abs" = none
  b_range : mg "range" = none
  b_ValueError : mg "ValueError" = none
  d_BadLine_init : ExiAt K A.BL "BadLine.__init__" s_BadLine_init
  d_BadFrame_init : ExiAt K A.BF "BadFrame.__init__" s_BadFrame_init
  d_is_integer : DefAt K mg "is_integer" s_is_integer []
  d_is_octet : DefAt K mg "is_octet" s_is_octet []
  d_is_data : DefAt K mg "is_data" s_is_data []
  d_is_line_octet : DefAt K mg "is_line_octet" s_is_line_octet []
  d_shown : DefAt K mg "shown" s_shown []
  d_line_text : DefAt K mg "line_text" s_line_text []
  d_code_of : DefAt K mg "code_of" s_code_of []
  d_octets : DefAt K mg "octets" s_octets []
  d_is_within : DefAt K mg "is_within" s_is_within []
  d_is_one_of : DefAt K mg "is_one_of" s_is_one_of []
  d_Book_init : IniAt K A.BK "Book.__init__" s_Book_init [("both", .str "refuse"), ("lengths", .str "refuse"), ("old_chunked", .str "refuse"), ("keep_old", .bl true), ("most_line", .int 100), ("most_fields", .int 16), ("most_digits", .int 6)]
  d_book_of : DefAt K mg "book_of" s_book_of []
  d_joined : DefAt K mg "joined" s_joined []
  d_Message_init : IniAt K A.MS "Message.__init__" s_Message_init []
  d_Message_asks_switch : MetAt K A.MS "asks_switch" "Message.asks_switch" s_Message_asks_switch []
  d_is_string : DefAt K mg "is_string" s_is_string []
  d_is_token : DefAt K mg "is_token" s_is_token []
  d_read_field : DefAt K mg "read_field" s_read_field []
  d_items_of : DefAt K mg "items_of" s_items_of []
  d_has_field : DefAt K mg "has_field" s_has_field []
  d_is_length : DefAt K mg "is_length" s_is_length []
  d_frame_error : DefAt K mg "frame_error" s_frame_error []
  d_plain_frame : DefAt K mg "plain_frame" s_plain_frame []
  d_request_frame : DefAt K mg "request_frame" s_request_frame [("book", .non)]
  d_response_frame : DefAt K mg "response_frame" s_response_frame [("method", .str "GET"), ("upgrade", .bl false), ("book", .non)]
  d_persists : DefAt K mg "persists" s_persists [("book", .non)]
  d_asks_upgrade : DefAt K mg "asks_upgrade" s_asks_upgrade []
  d_has_version_form : DefAt K mg "has_version_form" s_has_version_form []
  d_version_of : DefAt K mg "version_of" s_version_of []
  d_read_request : DefAt K mg "read_request" s_read_request []
  d_is_status_word : DefAt K mg "is_status_word" s_is_status_word []
  d_read_status : DefAt K mg "read_status" s_read_status []
  d_read_size : DefAt K mg "read_size" s_read_size []
  d_Reader_init : IniAt K A.RD "Reader.__init__" s_Reader_init [("book", .non)]
  d_Reader_look_open : MetAt K A.RD "look_open" "Reader.look_open" s_Reader_look_open []
  d_Reader_feed : MetAt K A.RD "feed" "Reader.feed" s_Reader_feed []
  d_Reader_read_some : MetAt K A.RD "read_some" "Reader.read_some" s_Reader_read_some []
  d_Reader_read_run : MetAt K A.RD "read_run" "Reader.read_run" s_Reader_read_run []
  d_Reader_fail : MetAt K A.RD "fail" "Reader.fail" s_Reader_fail []
  d_Reader_read_octet : MetAt K A.RD "read_octet" "Reader.read_octet" s_Reader_read_octet []
  d_Reader_read_chunk_end : MetAt K A.RD "read_chunk_end" "Reader.read_chunk_end" s_Reader_read_chunk_end []
  d_Reader_read_line_end : MetAt K A.RD "read_line_end" "Reader.read_line_end" s_Reader_read_line_end []
  d_Reader_read_line : MetAt K A.RD "read_line" "Reader.read_line" s_Reader_read_line []
  d_Reader_begin_chunk : MetAt K A.RD "begin_chunk" "Reader.begin_chunk" s_Reader_begin_chunk []
  d_Reader_read_start : MetAt K A.RD "read_start" "Reader.read_start" s_Reader_read_start []
  d_Reader_read_field_line : MetAt K A.RD "read_field_line" "Reader.read_field_line" s_Reader_read_field_line []
  d_Reader_end_head : MetAt K A.RD "end_head" "Reader.end_head" s_Reader_end_head []
  d_Reader_begin_body : MetAt K A.RD "begin_body" "Reader.begin_body" s_Reader_begin_body []
  d_Reader_end_message : MetAt K A.RD "end_message" "Reader.end_message" s_Reader_end_message []
  d_Reader_expect : MetAt K A.RD "expect" "Reader.expect" s_Reader_expect [("upgrade", .bl false), ("last", .bl false)]
  d__law_bag : DefAt K mg "_law_bag" s__law_bag []
  d__law_take : DefAt K mg "_law_take" s__law_take []
  d__law_pick : DefAt K mg "_law_pick" s__law_pick []
  d__law_book : DefAt K mg "_law_book" s__law_book []
  d__law_line : DefAt K mg "_law_line" s__law_line []
  d__law_read : DefAt K mg "_law_read" s__law_read []
  d__law_fail : DefAt K mg "_law_fail" s__law_fail []
  d__law_next_line : DefAt K mg "_law_next_line" s__law_next_line []
  d__law_fields : DefAt K mg "_law_fields" s__law_fields []
  d__law_message : DefAt K mg "_law_message" s__law_message []
  d__law_data : DefAt K mg "_law_data" s__law_data []
  d__law_body : DefAt K mg "_law_body" s__law_body []
  d__law_chunks : DefAt K mg "_law_chunks" s__law_chunks []
  d__law_head : DefAt K mg "_law_head" s__law_head []
  d__law_lines_of : DefAt K mg "_law_lines_of" s__law_lines_of []
  d__law_framing : DefAt K mg "_law_framing" s__law_framing []
  d__law_chunked : DefAt K mg "_law_chunked" s__law_chunked []
  d__law_one : DefAt K mg "_law_one" s__law_one []
  d__law_spoilt_data : DefAt K mg "_law_spoilt_data" s__law_spoilt_data []
  d__law_stream : DefAt K mg "_law_stream" s__law_stream []
  d__law_asks : DefAt K mg "_law_asks" s__law_asks []
  d__law_reader : DefAt K mg "_law_reader" s__law_reader []
  d__law_start : DefAt K mg "_law_start" s__law_start []
  d__law_field : DefAt K mg "_law_field" s__law_field []
  d__law_frame : DefAt K mg "_law_frame" s__law_frame []
  d_law : DefAt K mg "law" s_law []
  d_Reader_state : ProAt K A.RD "state" "Reader.state" s_Reader_state
end K32
namespace K32
open PySem PySem.Spec PyProof.Rows L2
/-! ### a def keeps its promise -/
section
variable {P : Program} {w : World} {K : PySem.W.Frag} {mg : Str → Option Value} {base : Heap} {x m qual : Str} {st : Stmt} {N ps : List Str} {k : Nat} {sp : Sp} {C : Addr}
/-- how plain parameters bind -/
abbrev BindOk (x qual : Str) (st : Stmt) (ps : List Str) : Prop := ∀ (kV doc pm : Value) (an : Option Addr) (cdv ct : Value) (us : List Value), us.length = ps.length →
  bindArgs (PySem.W.fnOf x qual (defArgs st) (defBody st) (defScope st) .none kV doc pm an cdv ct) ⟨us, []⟩ = pure (ps.zip us)
theorem has0 (D : DefAt K mg x st []) (S : FnScope N ps (defScope st)) (hb : BindOk x x st ps) (len : ∀ vs H Q E, sp vs H Q E → vs.length = ps.length)
    (hbody : ∀ (f : Addr) (cdv : Value) (A : Around) (outer : List Env) (s : Shared) (H : Hp) (vs : List V) (Q : VK) (E : XK), Room k (A.deeper (envOfC x (defScope st) s.heap.objs.size f cdv)) → sp vs H Q E →
      ∃ t, PSs (cxOf CX0 P w K mg base N x (defScope st) f cdv A outer s H E).nox (defBody st) t ∧ t { nx := fun _ H' => Q .non H', rt := Q } (L2.start N vs) H) : Has CX0 P w K mg base x (k + 1) ps sp := by
  obtain ⟨f, fd, hm, F⟩ := D.ex
  refine ⟨f, fd, hm, F.kp, F.bindsN hb, F.ok S len fun cdv A outer s H vs Q E hr h => ?_⟩
  obtain ⟨t, a, b⟩ := hbody f cdv A outer s H vs Q E hr h
  exact ⟨t, a.nox, b⟩
theorem hasX (D : DefAt K mg x st []) (S : FnScope N ps (defScope st)) (hb : BindOk x x st ps) (len : ∀ vs H Q E, sp vs H Q E → vs.length = ps.length)
    (hbody : ∀ (f : Addr) (cdv : Value) (A : Around) (outer : List Env) (s : Shared) (H : Hp) (vs : List V) (Q : VK) (E : XK), Room k (A.deeper (envOfC x (defScope st) s.heap.objs.size f cdv)) →
      L2N.Takes (cxOf (L2N.CX P w) P w K mg base N x (defScope st) f cdv A outer s H E) (fun cls d _ H => E cls d H) → sp vs H Q E →
      ∃ t, PSs (cxOf (L2N.CX P w) P w K mg base N x (defScope st) f cdv A outer s H E) (defBody st) t ∧ t { nx := fun _ H' => Q .non H', rt := Q } (L2.start N vs) H) : Has (L2N.CX P w) P w K mg base x (k + 1) ps sp := by
  obtain ⟨f, fd, hm, F⟩ := D.ex
  exact ⟨f, fd, hm, F.kp, F.bindsN hb, F.ok S len fun cdv A outer s H vs Q E hr h => hbody f cdv A outer s H vs Q E hr (L2N.takes_of rfl rfl rfl rfl) h⟩
theorem hasM0 (D : MetAt K C m qual st []) (S : FnScope N ps (defScope st)) (hb : BindOk m qual st ps) (len : ∀ vs H Q E, sp vs H Q E → vs.length = ps.length)
    (hbody : ∀ (f : Addr) (cdv : Value) (A : Around) (outer : List Env) (s : Shared) (H : Hp) (vs : List V) (Q : VK) (E : XK), Room k (A.deeper (envOfC qual (defScope st) s.heap.objs.size f cdv)) → sp vs H Q E →
      ∃ t, PSs (cxOf CX0 P w K mg base N qual (defScope st) f cdv A outer s H E).nox (defBody st) t ∧ t { nx := fun _ H' => Q .non H', rt := Q } (L2.start N vs) H) : HasM CX0 P w K mg base C m (k + 1) ps sp := by
  obtain ⟨f, fd, hm, F⟩ := D.ex
  refine ⟨f, fd, hm, F.bindsN hb, F.ok S len fun cdv A outer s H vs Q E hr h => ?_⟩
  obtain ⟨t, a, b⟩ := hbody f cdv A outer s H vs Q E hr h
  exact ⟨t, a.nox, b⟩
theorem hasMX (D : MetAt K C m qual st []) (S : FnScope N ps (defScope st)) (hb : BindOk m qual st ps) (len : ∀ vs H Q E, sp vs H Q E → vs.length = ps.length)
    (hbody : ∀ (f : Addr) (cdv : Value) (A : Around) (outer : List Env) (s : Shared) (H : Hp) (vs : List V) (Q : VK) (E : XK), Room k (A.deeper (envOfC qual (defScope st) s.heap.objs.size f cdv)) →
      L2N.Takes (cxOf (L2N.CX P w) P w K mg base N qual (defScope st) f cdv A outer s H E) (fun cls d _ H => E cls d H) → sp vs H Q E →
      ∃ t, PSs (cxOf (L2N.CX P w) P w K mg base N qual (defScope st) f cdv A outer s H E) (defBody st) t ∧ t { nx := fun _ H' => Q .non H', rt := Q } (L2.start N vs) H) : HasM (L2N.CX P w) P w K mg base C m (k + 1) ps sp := by
  obtain ⟨f, fd, hm, F⟩ := D.ex
  exact ⟨f, fd, hm, F.bindsN hb, F.ok S len fun cdv A outer s H vs Q E hr h => hbody f cdv A outer s H vs Q E hr (L2N.takes_of rfl rfl rfl rfl) h⟩
end
end K32
namespace K32
open PySem PySem.Spec PyProof.Rows L2
/-! ### heaps that grow; comprehensions -/
abbrev Ex : Hp → Hp → Prop := Evl.Ex
theorem Ex.rfl' (H : Hp) : Ex H H := Evl.Ex.refl H
theorem Ex.new {H : Hp} {p : Addr} {o : HO} (h : H p = none) : Ex H (upd H p o) := Evl.Ex.new h
theorem Ex.tr {H H1 H2 : Hp} (a : Ex H H1) (b : Ex H1 H2) : Ex H H2 := Evl.Ex.trans a b
theorem Ex.free {H H' : Hp} {p : Addr} (e : Ex H H') (h : H' p = none) : H p = none := Evl.fresh_back e h
theorem small {n : Nat} (h : n ≤ 100000) : n ≤ sizeLine := Nat.le_trans h (by decide)
theorem filter_take_some {α : Type} {xs : List α} {i : Nat} {x : α} (p : α → Bool) (h : xs[i]? = some x) : (xs.take (i + 1)).filter p = (xs.take i).filter p ++ (if p x then [x] else []) := by
  obtain ⟨hi, e⟩ := List.getElem?_eq_some_iff.mp h
  rw [List.take_succ, List.filter_append, h]
  show (xs.take i).filter p ++ [x].filter p = _
  cases q : p x <;> simp [q]
/-- a comprehension whose parts only make objects: the items that pass, each by its value -/
theorem comp_gen {J : It} {xs : List V} {G : Hp → Prop} {g : TG} {tt : TT} {te : TE} {vs : List Nat} {σ : St} {H1 : Hp} {D : Addr} {Qd : Hp → Prop} (hD : H1 D = none) (w : Walk J xs.length G (YAt xs)) (hG : ∀ H', Ex H1 H' → G H') (hz : xs.length < 100000)
    (σx : V → St) (tst : V → Bool) (el : V → V) (hg : ∀ x H', x ∈ xs → Ex H1 H' → ∀ R : St → Hp → Prop, R (σx x) H' → g x (wipe σ vs) H' R) (hw : ∀ x, x ∈ xs → wipe (σx x) vs = wipe σ vs)
    (ht : ∀ x H', x ∈ xs → Ex H1 H' → ∀ R : Bool → Hp → Prop, (∀ H2, Ex H' H2 → R (tst x) H2) → tt (σx x) H' R)
    (he : ∀ x H', x ∈ xs → tst x = true → Ex H1 H' → ∀ R : VK, (∀ H2, Ex H' H2 → R (el x) H2) → te (σx x) H' R)
    (k : ∀ H', Ex H1 H' → H' D = some (.lst ((xs.filter tst).map el)) → Qd H') :
    ∃ W : Nat → Nat → Hp → Prop, (∃ m, W 0 m (upd H1 D (.lst []))) ∧ ∀ i m H, W i m H →
      (J.stop i H ∧ Qd H) ∨ (J.go i H ∧ ∃ Nx : Hp → Prop, (∀ H', Nx H' → ∃ m', m' < m ∧ W (i + 1) m' H') ∧ ∀ x H', J.yld i H x H' → g x (wipe σ vs) H' fun σ2 H2 => wipe σ2 vs = wipe σ vs ∧ tt σ2 H2 fun b H3 =>
        if b = true then te σ2 H3 fun y H4 => ∃ acc, H4 D = some (.lst acc) ∧ acc.length < sizeLine ∧ Nx (upd H4 D (.lst (acc ++ [y]))) else Nx H3) := by
  refine lc_it w (fun i H => Ex H1 H ∧ H D = some (.lst (((xs.take i).filter tst).map el))) ⟨Ex.new hD, upd_same⟩ (fun i H _ p => hG H p.1) ?_ (fun H p => ?_)
  · rintro i x H H' hi ⟨p1, p2⟩ ⟨e, hx⟩
    have e2 : H' = H := e
    subst e2
    have hm : x ∈ xs := List.mem_of_getElem? hx
    refine hg x _ hm p1 _ ⟨hw x hm, ht x _ hm p1 _ fun H2 e2 => ?_⟩
    have ft := filter_take_some tst hx
    cases q : tst x with
    | true =>
      rw [if_pos rfl]
      rw [q, if_pos rfl] at ft
      refine he x H2 hm q (p1.tr e2) _ fun H3 e3 => ⟨_, e3 _ _ (e2 _ _ p2), ?_, ((p1.tr e2).tr e3).mut hD, ?_⟩
      · refine Nat.lt_of_le_of_lt (Nat.le_trans ?_ (Nat.le_of_lt hz)) (by decide : 100000 < sizeLine)
        rw [List.length_map]
        exact Nat.le_trans (List.length_filter_le _ _) (by rw [List.length_take]; omega)
      · rw [ft, List.map_append]
        exact upd_same
    | false =>
      rw [if_neg Bool.false_ne_true]
      rw [q, if_neg Bool.false_ne_true, List.append_nil] at ft
      exact ⟨p1.tr e2, by rw [ft]; exact e2 _ _ p2⟩
  · obtain ⟨p1, p2⟩ := p
    rw [List.take_length] at p2
    exact k H p1 p2
/-- a text's signs -/
def signs (z : Str) : List V := z.cps.toList.map fun c => V.str ⟨#[c]⟩
theorem signs_len (z : Str) : (signs z).length = z.length := by
  unfold signs
  rw [List.length_map]
  rfl
theorem walk_signs {z : Str} : Walk (Its z) (signs z).length (fun _ => True) (YAt (signs z)) := by
  have e : (signs z).length = z.cps.size := signs_len z
  rw [e]
  refine Walk.mono walk_str (fun _ _ => trivial) fun i H x H' hi _ y => ?_
  obtain ⟨h1, c, h2, h3⟩ := y
  refine ⟨h1, ?_⟩
  unfold signs
  rw [List.getElem?_map, Array.getElem?_toList, h2, h3]
  rfl
theorem mem_signs {z : Str} {x : V} (h : x ∈ signs z) : ∃ c, c ∈ z.cps.toList ∧ x = .str ⟨#[c]⟩ := by
  obtain ⟨c, hc, e⟩ := List.mem_map.mp h
  exact ⟨c, hc, e.symm⟩
theorem upd_get {H : Hp} {a : Addr} {o : HO} : upd H a o a = some o := upd_same
/-- a written tuple, a list: what is there behind -/
theorem all_map_bl (l : List V) (p : V → Bool) : l.map (fun x => V.bl (p x)) = (l.map p).map V.bl := by
  rw [List.map_map]
  rfl
theorem filter_true {α : Type} (l : List α) : l.filter (fun _ => true) = l := by simp
end K32
namespace K32
open PySem PySem.Spec PyProof.Rows L2
/-! ### enumerate(text) -/
/-- the signs of an ascii text, each in a new pair with its place -/
def Ites (z : Str) : It :=
  ⟨fun i _ => i < z.cps.size, fun i H v H' => ∃ T c, v = .ref T ∧ H T = none ∧ H' = upd H T (.tup [.int (i : Nat), .str ⟨#[c]⟩]) ∧ z.cps[i]? = some c, fun i _ => z.cps.size ≤ i⟩
theorem turn_enumS {P : Program} {w : World} {K : PySem.W.Frag} {elts : List Expr} {kk : Nat} {tpos : Pos} (z : Str) (tz : Tok) (e it : Addr) :
    Turn P w K (.Tuple elts kk tpos) (Ites z) [e, it] e (fun i h => (∃ old, IsEnum h e it ((i : Nat) : Int) old) ∧ h.IsStrIter it "str_ascii_iterator" z tz i ∧ e ≠ it) where
  mem := List.mem_cons_self
  obj := fun i h st b hb => by
    obtain ⟨⟨old, h1⟩, ⟨ob, h2, _, h3⟩, _⟩ := st
    rcases List.mem_cons.mp hb with rfl | hb
    · exact ⟨_, h1, fun v q => nomatch q⟩
    · obtain rfl := List.mem_singleton.mp hb
      exact ⟨ob, h2, fun v q => by rw [h3] at q; cases q⟩
  keep := fun i h h' st k => by
    obtain ⟨⟨old, h1⟩, ⟨ob, h2, h3⟩, ne⟩ := st
    exact ⟨⟨old, k e List.mem_cons_self _ h1⟩, ⟨ob, k it (List.mem_cons_of_mem _ List.mem_cons_self) _ h2, h3⟩, ne⟩
  item := by
    intro X hP hw hK hc i pins s σ H E I hf st hlt
    subst hP hw hK
    obtain ⟨⟨old, h1⟩, h2, ne⟩ := st
    have e1 : e < s.heap.objs.size := Heap.lt_size h1
    have e2 : it < s.heap.objs.size := by
      obtain ⟨_, q, _⟩ := h2
      exact Heap.lt_size q
    have hd : X.A.in1.handled = none := I.ok.hd hc
    refine wpAny_pyNext_enum_itemD (Draws.strAscii hd it z tz) h1 h2 hlt ne (fun q => ne (List.mem_singleton.mp q)) fun x h' tk hx ho hs hT hsz hk => ?_
    obtain ⟨c, u, hc1, rfl⟩ := hx
    refine ⟨_, rfl, wpAny_letOwnedTupleGo_enum (s := { s with heap := h', toks := tk + 1 }) ho fun h'' he' sb => ?_⟩
    have hT2 : h''.get? s.heap.objs.size = some { cls := .type "tuple", data := .seq #[.int i tk, .str ⟨#[c]⟩ u] } := (sb.2 _ (Nat.ne_of_gt e1)).trans hT
    have new : ObjOk X.prog X.w (upd H s.heap.objs.size (.tup [.int (i : Nat), .str ⟨#[c]⟩])) h'' s.heap.objs.size (.tup [.int (i : Nat), .str ⟨#[c]⟩]) :=
      ⟨(by show 2 ≤ sizeLine; decide), [.int i tk, .str ⟨#[c]⟩ u], .cons ⟨_, rfl⟩ (.cons ⟨_, rfl⟩ .nil), ⟨_, hT2, rfl, _, rfl⟩⟩
    have I1 : Inv X pins σ (upd H s.heap.objs.size (.tup [.int (i : Nat), .str ⟨#[c]⟩])) { s with heap := h'', toks := tk + 1 } :=
      I.turnedNew (ch := [e, it]) (fun b ob hb q => by
        have n1 : b ≠ e := fun q => hb (q ▸ List.mem_cons_self)
        have n2 : b ≠ it := fun q => hb (q ▸ List.mem_cons_of_mem _ List.mem_cons_self)
        exact (sb.2 b n1).trans (hk b ob n1 n2 q)) hf (Nat.le_refl _) new
    have st' : h''.IsStrIter it "str_ascii_iterator" z tz (i + 1) := by
      obtain ⟨ob, q1, q2⟩ := hs
      exact ⟨ob, (sb.2 it (Ne.symm ne)).trans q1, q2⟩
    refine ⟨.ref s.heap.objs.size, _, I1, rfl, ⟨_, c, rfl, I.hok.fresh (Nat.le_refl _), rfl, hc1⟩, ⟨⟨.str ⟨#[c]⟩ u, ?_⟩, st', ne⟩, fun b hb => ?_⟩
    · have ei : ((i + 1 : Nat) : Int) = (i : Int) + 1 := by omega
      rw [ei]
      exact he'
    · have lt : b < s.heap.objs.size := by
        rcases List.mem_cons.mp hb with rfl | hb
        · exact e1
        · rw [List.mem_singleton.mp hb]
          exact e2
      rw [upd_ne (Nat.ne_of_lt lt)]
      exact (hf b hb).1
  done := by
    intro X hP hw hK hc i pins s σ H E I hf st hge
    subst hP hw hK
    obtain ⟨⟨old, h1⟩, h2, ne⟩ := st
    obtain ⟨f0, f1, f2, f3, f4, f5⟩ := hf it (List.mem_cons_of_mem _ List.mem_cons_self)
    have hd : X.A.in1.handled = none := I.ok.hd hc
    have hx : z.cps[i]? = none := Array.getElem?_eq_none hge
    have T1 : s.TypeIs (.ref e) "enumerate" := ⟨_, h1, rfl⟩
    unfold pyNext
    refine wpAny_bind (wpAny_attempt (wpAny_callSpecial?_slot (name := Str.ofString "__next__") T1 F.slot_enumerate_next
      (wpAny_call_entry F.slot_enumerate_next T1 F.entry_enumerate_next ?_ (F.args_enumerate_next_1 _))))
    show wpAny _ _ (field (.ref e) 2 >>= _) _ _ _
    refine wpAny_bind (wpAny_field h1 rfl (x := .ref it) rfl ?_)
    refine wpAny_bind (wpAny_nextOf_ascii_end hd h2 hx fun h' x hb hx' => ?_)
    obtain ⟨o, ho, hcl⟩ := hx'
    refine wpAny_bind (wpAny_isInstance (T := "StopIteration") (b := true) ⟨o, ho, hcl⟩ isSubtype_stop ?_)
    exact wpAny_pure ⟨rfl, I.turned (t' := s.toks) (fun b o hb2 q => hb b o hb2 q) f0 f1 f3 f4 f5⟩
  self := fun A i s Q E st h => let ⟨⟨_, h1⟩, _⟩ := st; wpAny_pyIter_enum h1 h
def iEnumS (ta : TA) : TI := fun σ H R => ta σ H fun vs H1 => ∃ z : Str, vs = [.str z] ∧ z.cps.all (· < 128) = true ∧ R (Ites z) H1
theorem pi_enumS {X : Cx} {e : Expr} {ta : TA} {p pos tpos : Pos} {elts : List Expr} {kk : Nat} (hg : Gl X "enumerate") (hm : X.mg "enumerate" = none) (ha : PA X [e] ta) (hs : starEach [e] X.env = [(false, eval e X.env)] := by rfl) :
    PI X (.Tuple elts kk tpos) (.Call (.Name "enumerate" p) [e] [] pos) (iEnumS ta) := by
  refine ⟨fun pins s σ H R I h => ?_⟩
  refine Call_ (ld_blt I hg hm boot_enumerate (PyProof.Rows.callWith_type1 (thn (ha.run pos pins s σ H _ I h) fun us s1 ⟨vs, H1, I1, r1, q1⟩ => ?_) hs rfl))
  obtain ⟨z, rfl, hz, q⟩ := q1
  cases r1 with
  | cons r rr =>
    cases rr
    obtain ⟨tz, rfl⟩ := r
    refine call_enumerate_str fun h' he hit hsz hk => wpAny_pyIter_enum he ?_
    have e3 : strIterType z = "str_ascii_iterator" := by
      unfold strIterType
      rw [hz] <;> rfl
    rw [e3] at hit
    have I2 : Inv X pins σ H1 { s1 with heap := h' } := I1.kept (t' := s1.toks) hk
    refine ⟨s1.heap.objs.size + 1, [s1.heap.objs.size + 1, s1.heap.objs.size], _, _, H1, rfl, I2, turn_enumS z tz (s1.heap.objs.size + 1) s1.heap.objs.size, ⟨⟨.none, he⟩, hit, Nat.succ_ne_self _⟩, fun b hb => ?_, q⟩
    have le : s1.heap.objs.size ≤ b := by
      rcases List.mem_cons.mp hb with rfl | hb
      · exact Nat.le_succ _
      · rw [List.mem_singleton.mp hb]
        exact Nat.le_refl _
    exact I1.fpOk le (I1.hok.fresh le)
theorem walk_enumS {z : Str} : Walk (Ites z) z.cps.size (fun _ => True) (fun i H v H' => ∃ T c, v = .ref T ∧ H T = none ∧ H' = upd H T (.tup [.int (i : Nat), .str ⟨#[c]⟩]) ∧ z.cps[i]? = some c) :=
  ⟨fun _ _ hi _ => hi, fun _ _ => Nat.le_refl _, fun _ _ _ _ _ _ y => y⟩
end K32
namespace K32
open PySem PySem.Spec PyProof.Rows L2
/-! ### comprehensions, told by what the items stand for -/
theorem Paired.at {α β : Type} {R : α → β → Prop} : ∀ {xs : List α} {ds : List β} {i : Nat} {x : α}, Paired R xs ds → xs[i]? = some x → ∃ d, ds[i]? = some d ∧ R x d
  | _, _, _, _, .nil, h => by simp at h
  | _, _, 0, _, .cons r _, h => by
    have e := Option.some.inj h
    exact ⟨_, rfl, e ▸ r⟩
  | _, _, i + 1, x, .cons _ t, h => by
    obtain ⟨d, h1, h2⟩ := Paired.at (i := i) (x := x) t (by simpa using h)
    exact ⟨d, by simpa using h1, h2⟩
theorem Paired.of_map {α β : Type} {R : α → β → Prop} (f : β → α) (h : ∀ d, R (f d) d) : ∀ ds : List β, Paired R (ds.map f) ds
  | [] => .nil
  | d :: r => .cons (h d) (Paired.of_map f h r)
theorem comp_rel {δ : Type} {J : It} {xs : List V} {ds : List δ} {Rel : V → δ → Prop} {G : Hp → Prop} {g : TG} {tt : TT} {te : TE} {vs : List Nat} {σ : St} {H1 : Hp} {D : Addr} {Qd : Hp → Prop} (hD : H1 D = none) (w : Walk J xs.length G (YAt xs))
    (hG : ∀ H', Ex H1 H' → G H') (hz : xs.length < 100000) (hp : Paired Rel xs ds) (σd : δ → St) (tst : δ → Bool) (el : δ → V)
    (hg : ∀ x d H', Rel x d → d ∈ ds → Ex H1 H' → ∀ R : St → Hp → Prop, R (σd d) H' → g x (wipe σ vs) H' R) (hw : ∀ d, d ∈ ds → wipe (σd d) vs = wipe σ vs)
    (ht : ∀ d H', d ∈ ds → Ex H1 H' → ∀ R : Bool → Hp → Prop, (∀ H2, Ex H' H2 → R (tst d) H2) → tt (σd d) H' R)
    (he : ∀ d H', d ∈ ds → tst d = true → Ex H1 H' → ∀ R : VK, (∀ H2, Ex H' H2 → R (el d) H2) → te (σd d) H' R)
    (k : ∀ H', Ex H1 H' → H' D = some (.lst ((ds.filter tst).map el)) → Qd H') :
    ∃ W : Nat → Nat → Hp → Prop, (∃ m, W 0 m (upd H1 D (.lst []))) ∧ ∀ i m H, W i m H →
      (J.stop i H ∧ Qd H) ∨ (J.go i H ∧ ∃ Nx : Hp → Prop, (∀ H', Nx H' → ∃ m', m' < m ∧ W (i + 1) m' H') ∧ ∀ x H', J.yld i H x H' → g x (wipe σ vs) H' fun σ2 H2 => wipe σ2 vs = wipe σ vs ∧ tt σ2 H2 fun b H3 =>
        if b = true then te σ2 H3 fun y H4 => ∃ acc, H4 D = some (.lst acc) ∧ acc.length < sizeLine ∧ Nx (upd H4 D (.lst (acc ++ [y]))) else Nx H3) := by
  have hl : xs.length = ds.length := hp.length
  refine lc_it w (fun i H => Ex H1 H ∧ H D = some (.lst (((ds.take i).filter tst).map el))) ⟨Ex.new hD, upd_same⟩ (fun i H _ p => hG H p.1) ?_ (fun H p => ?_)
  · rintro i x H H' hi ⟨p1, p2⟩ ⟨e, hx⟩
    have e2 : H' = H := e
    subst e2
    obtain ⟨d, hd, r⟩ := Paired.at hp hx
    have hm : d ∈ ds := List.mem_of_getElem? hd
    refine hg x d _ r hm p1 _ ⟨hw d hm, ht d _ hm p1 _ fun H2 e2 => ?_⟩
    have ft := filter_take_some tst hd
    cases q : tst d with
    | true =>
      rw [if_pos rfl]
      rw [q, if_pos rfl] at ft
      refine he d H2 hm q (p1.tr e2) _ fun H3 e3 => ⟨_, e3 _ _ (e2 _ _ p2), ?_, ((p1.tr e2).tr e3).mut hD, ?_⟩
      · refine Nat.lt_of_le_of_lt (Nat.le_trans ?_ (Nat.le_of_lt hz)) (by decide : 100000 < sizeLine)
        rw [List.length_map]
        exact Nat.le_trans (List.length_filter_le _ _) (by rw [List.length_take]; omega)
      · rw [ft, List.map_append]
        exact upd_same
    | false =>
      rw [if_neg Bool.false_ne_true]
      rw [q, if_neg Bool.false_ne_true, List.append_nil] at ft
      exact ⟨p1.tr e2, by rw [ft]; exact e2 _ _ p2⟩
  · obtain ⟨p1, p2⟩ := p
    rw [hl, List.take_length] at p2
    exact k H p1 p2
theorem signs_rel (z : Str) : Paired (fun (x : V) (c : Nat) => x = .str ⟨#[c]⟩) (signs z) z.cps.toList := Paired.of_map (fun c => V.str ⟨#[c]⟩) (fun _ => rfl) _
theorem ints_rel (os : List Int) : Paired (fun (x : V) (o : Int) => x = .int o) (os.map V.int) os := Paired.of_map V.int (fun _ => rfl) _
theorem strs_rel (ys : List Str) : Paired (fun (x : V) (y : Str) => x = .str y) (ys.map V.str) ys := Paired.of_map V.str (fun _ => rfl) _
/-! ### fields: pairs of texts -/
abbrev Fld : Type := Str × Str
def FldAt (H : Hp) (v : V) (f : Fld) : Prop := ∃ t, v = .ref t ∧ H t = some (.tup [.str f.1, .str f.2])
/-- a tuple of fields, a list of fields -/
def FT (H : Hp) (a : Addr) (fs : List Fld) : Prop := ∃ vs, H a = some (.tup vs) ∧ Paired (FldAt H) vs fs
def FL (H : Hp) (a : Addr) (fs : List Fld) : Prop := ∃ vs, H a = some (.lst vs) ∧ Paired (FldAt H) vs fs
/-- the tuples stand -/
def Tk (H H' : Hp) : Prop := ∀ b xs, H b = some (.tup xs) → H' b = some (.tup xs)
theorem Tk.of {H H' : Hp} (e : Ex H H') : Tk H H' := fun b xs h => e b _ h
theorem Tk.tr {H H1 H2 : Hp} (a : Tk H H1) (b : Tk H1 H2) : Tk H H2 := fun c xs h => b c xs (a c xs h)
theorem FldAt.mono {H H' : Hp} {v : V} {f : Fld} (t : Tk H H') (h : FldAt H v f) : FldAt H' v f := by
  obtain ⟨a, e, ha⟩ := h
  exact ⟨a, e, t _ _ ha⟩
theorem flds_mono {H H' : Hp} {vs : List V} {fs : List Fld} (t : Tk H H') (h : Paired (FldAt H) vs fs) : Paired (FldAt H') vs fs := L2.Paired.mapP h fun _ _ => FldAt.mono t
theorem FT.mono {H H' : Hp} {a : Addr} {fs : List Fld} (t : Tk H H') (h : FT H a fs) : FT H' a fs := by
  obtain ⟨vs, h1, h2⟩ := h
  exact ⟨vs, t _ _ h1, flds_mono t h2⟩
/-- fields within bounds -/
def OkFs (fs : List Fld) : Prop := fs.length ≤ 20 ∧ ∀ f ∈ fs, f.1.length ≤ 1000 ∧ f.2.length ≤ 200
end K32

namespace K32H
open PySem PySem.Spec PyProof.Rows L2 K32
def d_BadLine_init : He.DefD := ⟨("BadLine", some "__init__"), "__init__", "BadLine.__init__", defArgs s_BadLine_init, defBody s_BadLine_init, defScope s_BadLine_init, [], []⟩
def d_BadFrame_init : He.DefD := ⟨("BadFrame", some "__init__"), "__init__", "BadFrame.__init__", defArgs s_BadFrame_init, defBody s_BadFrame_init, defScope s_BadFrame_init, [], []⟩
def d_is_integer : He.DefD := ⟨("is_integer", none), "is_integer", "is_integer", defArgs s_is_integer, defBody s_is_integer, defScope s_is_integer, [], []⟩
def d_is_octet : He.DefD := ⟨("is_octet", none), "is_octet", "is_octet", defArgs s_is_octet, defBody s_is_octet, defScope s_is_octet, [], []⟩
def d_is_data : He.DefD := ⟨("is_data", none), "is_data", "is_data", defArgs s_is_data, defBody s_is_data, defScope s_is_data, [], []⟩
def d_is_line_octet : He.DefD := ⟨("is_line_octet", none), "is_line_octet", "is_line_octet", defArgs s_is_line_octet, defBody s_is_line_octet, defScope s_is_line_octet, [], []⟩
def d_shown : He.DefD := ⟨("shown", none), "shown", "shown", defArgs s_shown, defBody s_shown, defScope s_shown, [], []⟩
def d_line_text : He.DefD := ⟨("line_text", none), "line_text", "line_text", defArgs s_line_text, defBody s_line_text, defScope s_line_text, [], []⟩
def d_code_of : He.DefD := ⟨("code_of", none), "code_of", "code_of", defArgs s_code_of, defBody s_code_of, defScope s_code_of, [], []⟩
def d_octets : He.DefD := ⟨("octets", none), "octets", "octets", defArgs s_octets, defBody s_octets, defScope s_octets, [], []⟩
def d_is_within : He.DefD := ⟨("is_within", none), "is_within", "is_within", defArgs s_is_within, defBody s_is_within, defScope s_is_within, [], []⟩
def d_is_one_of : He.DefD := ⟨("is_one_of", none), "is_one_of", "is_one_of", defArgs s_is_one_of, defBody s_is_one_of, defScope s_is_one_of, [], []⟩
def d_Book_init : He.DefD := ⟨("Book", some "__init__"), "__init__", "Book.__init__", defArgs s_Book_init, defBody s_Book_init, defScope s_Book_init, [], [("both", .str "refuse"), ("lengths", .str "refuse"), ("old_chunked", .str "refuse"), ("keep_old", .bl true), ("most_line", .int 100), ("most_fields", .int 16), ("most_digits", .int 6)]⟩
def d_book_of : He.DefD := ⟨("book_of", none), "book_of", "book_of", defArgs s_book_of, defBody s_book_of, defScope s_book_of, [], []⟩
def d_joined : He.DefD := ⟨("joined", none), "joined", "joined", defArgs s_joined, defBody s_joined, defScope s_joined, [], []⟩
def d_Message_init : He.DefD := ⟨("Message", some "__init__"), "__init__", "Message.__init__", defArgs s_Message_init, defBody s_Message_init, defScope s_Message_init, [], []⟩
def d_Message_asks_switch : He.DefD := ⟨("Message", some "asks_switch"), "asks_switch", "Message.asks_switch", defArgs s_Message_asks_switch, defBody s_Message_asks_switch, defScope s_Message_asks_switch, [], []⟩
def d_is_string : He.DefD := ⟨("is_string", none), "is_string", "is_string", defArgs s_is_string, defBody s_is_string, defScope s_is_string, [], []⟩
def d_is_token : He.DefD := ⟨("is_token", none), "is_token", "is_token", defArgs s_is_token, defBody s_is_token, defScope s_is_token, [], []⟩
def d_read_field : He.DefD := ⟨("read_field", none), "read_field", "read_field", defArgs s_read_field, defBody s_read_field, defScope s_read_field, [], []⟩
def d_items_of : He.DefD := ⟨("items_of", none), "items_of", "items_of", defArgs s_items_of, defBody s_items_of, defScope s_items_of, [], []⟩
def d_has_field : He.DefD := ⟨("has_field", none), "has_field", "has_field", defArgs s_has_field, defBody s_has_field, defScope s_has_field, [], []⟩
def d_is_length : He.DefD := ⟨("is_length", none), "is_length", "is_length", defArgs s_is_length, defBody s_is_length, defScope s_is_length, [], []⟩
def d_frame_error : He.DefD := ⟨("frame_error", none), "frame_error", "frame_error", defArgs s_frame_error, defBody s_frame_error, defScope s_frame_error, [], []⟩
def d_plain_frame : He.DefD := ⟨("plain_frame", none), "plain_frame", "plain_frame", defArgs s_plain_frame, defBody s_plain_frame, defScope s_plain_frame, [], []⟩
def d_request_frame : He.DefD := ⟨("request_frame", none), "request_frame", "request_frame", defArgs s_request_frame, defBody s_request_frame, defScope s_request_frame, [], [("book", .non)]⟩
def d_response_frame : He.DefD := ⟨("response_frame", none), "response_frame", "response_frame", defArgs s_response_frame, defBody s_response_frame, defScope s_response_frame, [], [("method", .str "GET"), ("upgrade", .bl false), ("book", .non)]⟩
def d_persists : He.DefD := ⟨("persists", none), "persists", "persists", defArgs s_persists, defBody s_persists, defScope s_persists, [], [("book", .non)]⟩
def d_asks_upgrade : He.DefD := ⟨("asks_upgrade", none), "asks_upgrade", "asks_upgrade", defArgs s_asks_upgrade, defBody s_asks_upgrade, defScope s_asks_upgrade, [], []⟩
def d_has_version_form : He.DefD := ⟨("has_version_form", none), "has_version_form", "has_version_form", defArgs s_has_version_form, defBody s_has_version_form, defScope s_has_version_form, [], []⟩
def d_version_of : He.DefD := ⟨("version_of", none), "version_of", "version_of", defArgs s_version_of, defBody s_version_of, defScope s_version_of, [], []⟩
def d_read_request : He.DefD := ⟨("read_request", none), "read_request", "read_request", defArgs s_read_request, defBody s_read_request, defScope s_read_request, [], []⟩
def d_is_status_word : He.DefD := ⟨("is_status_word", none), "is_status_word", "is_status_word", defArgs s_is_status_word, defBody s_is_status_word, defScope s_is_status_word, [], []⟩
def d_read_status : He.DefD := ⟨("read_status", none), "read_status", "read_status", defArgs s_read_status, defBody s_read_status, defScope s_read_status, [], []⟩
def d_read_size : He.DefD := ⟨("read_size", none), "read_size", "read_size", defArgs s_read_size, defBody s_read_size, defScope s_read_size, [], []⟩
def d_Reader_init : He.DefD := ⟨("Reader", some "__init__"), "__init__", "Reader.__init__", defArgs s_Reader_init, defBody s_Reader_init, defScope s_Reader_init, [], [("book", .non)]⟩
def d_Reader_look_open : He.DefD := ⟨("Reader", some "look_open"), "look_open", "Reader.look_open", defArgs s_Reader_look_open, defBody s_Reader_look_open, defScope s_Reader_look_open, [], []⟩
def d_Reader_feed : He.DefD := ⟨("Reader", some "feed"), "feed", "Reader.feed", defArgs s_Reader_feed, defBody s_Reader_feed, defScope s_Reader_feed, [], []⟩
def d_Reader_read_some : He.DefD := ⟨("Reader", some "read_some"), "read_some", "Reader.read_some", defArgs s_Reader_read_some, defBody s_Reader_read_some, defScope s_Reader_read_some, [], []⟩
def d_Reader_read_run : He.DefD := ⟨("Reader", some "read_run"), "read_run", "Reader.read_run", defArgs s_Reader_read_run, defBody s_Reader_read_run, defScope s_Reader_read_run, [], []⟩
def d_Reader_fail : He.DefD := ⟨("Reader", some "fail"), "fail", "Reader.fail", defArgs s_Reader_fail, defBody s_Reader_fail, defScope s_Reader_fail, [], []⟩
def d_Reader_read_octet : He.DefD := ⟨("Reader", some "read_octet"), "read_octet", "Reader.read_octet", defArgs s_Reader_read_octet, defBody s_Reader_read_octet, defScope s_Reader_read_octet, [], []⟩
def d_Reader_read_chunk_end : He.DefD := ⟨("Reader", some "read_chunk_end"), "read_chunk_end", "Reader.read_chunk_end", defArgs s_Reader_read_chunk_end, defBody s_Reader_read_chunk_end, defScope s_Reader_read_chunk_end, [], []⟩
def d_Reader_read_line_end : He.DefD := ⟨("Reader", some "read_line_end"), "read_line_end", "Reader.read_line_end", defArgs s_Reader_read_line_end, defBody s_Reader_read_line_end, defScope s_Reader_read_line_end, [], []⟩
def d_Reader_read_line : He.DefD := ⟨("Reader", some "read_line"), "read_line", "Reader.read_line", defArgs s_Reader_read_line, defBody s_Reader_read_line, defScope s_Reader_read_line, [], []⟩
def d_Reader_begin_chunk : He.DefD := ⟨("Reader", some "begin_chunk"), "begin_chunk", "Reader.begin_chunk", defArgs s_Reader_begin_chunk, defBody s_Reader_begin_chunk, defScope s_Reader_begin_chunk, [], []⟩
def d_Reader_read_start : He.DefD := ⟨("Reader", some "read_start"), "read_start", "Reader.read_start", defArgs s_Reader_read_start, defBody s_Reader_read_start, defScope s_Reader_read_start, [], []⟩
def d_Reader_read_field_line : He.DefD := ⟨("Reader", some "read_field_line"), "read_field_line", "Reader.read_field_line", defArgs s_Reader_read_field_line, defBody s_Reader_read_field_line, defScope s_Reader_read_field_line, [], []⟩
def d_Reader_end_head : He.DefD := ⟨("Reader", some "end_head"), "end_head", "Reader.end_head", defArgs s_Reader_end_head, defBody s_Reader_end_head, defScope s_Reader_end_head, [], []⟩
def d_Reader_begin_body : He.DefD := ⟨("Reader", some "begin_body"), "begin_body", "Reader.begin_body", defArgs s_Reader_begin_body, defBody s_Reader_begin_body, defScope s_Reader_begin_body, [], []⟩
def d_Reader_end_message : He.DefD := ⟨("Reader", some "end_message"), "end_message", "Reader.end_message", defArgs s_Reader_end_message, defBody s_Reader_end_message, defScope s_Reader_end_message, [], []⟩
def d_Reader_expect : He.DefD := ⟨("Reader", some "expect"), "expect", "Reader.expect", defArgs s_Reader_expect, defBody s_Reader_expect, defScope s_Reader_expect, [], [("upgrade", .bl false), ("last", .bl false)]⟩
def d__law_bag : He.DefD := ⟨("_law_bag", none), "_law_bag", "_law_bag", defArgs s__law_bag, defBody s__law_bag, defScope s__law_bag, [], []⟩
def d__law_take : He.DefD := ⟨("_law_take", none), "_law_take", "_law_take", defArgs s__law_take, defBody s__law_take, defScope s__law_take, [], []⟩
def d__law_pick : He.DefD := ⟨("_law_pick", none), "_law_pick", "_law_pick", defArgs s__law_pick, defBody s__law_pick, defScope s__law_pick, [], []⟩
def d__law_book : He.DefD := ⟨("_law_book", none), "_law_book", "_law_book", defArgs s__law_book, defBody s__law_book, defScope s__law_book, [], []⟩
def d__law_line : He.DefD := ⟨("_law_line", none), "_law_line", "_law_line", defArgs s__law_line, defBody s__law_line, defScope s__law_line, [], []⟩
def d__law_read : He.DefD := ⟨("_law_read", none), "_law_read", "_law_read", defArgs s__law_read, defBody s__law_read, defScope s__law_read, [], []⟩
def d__law_fail : He.DefD := ⟨("_law_fail", none), "_law_fail", "_law_fail", defArgs s__law_fail, defBody s__law_fail, defScope s__law_fail, [], []⟩
def d__law_next_line : He.DefD := ⟨("_law_next_line", none), "_law_next_line", "_law_next_line", defArgs s__law_next_line, defBody s__law_next_line, defScope s__law_next_line, [], []⟩
def d__law_fields : He.DefD := ⟨("_law_fields", none), "_law_fields", "_law_fields", defArgs s__law_fields, defBody s__law_fields, defScope s__law_fields, [], []⟩
def d__law_message : He.DefD := ⟨("_law_message", none), "_law_message", "_law_message", defArgs s__law_message, defBody s__law_message, defScope s__law_message, [], []⟩
def d__law_data : He.DefD := ⟨("_law_data", none), "_law_data", "_law_data", defArgs s__law_data, defBody s__law_data, defScope s__law_data, [], []⟩
def d__law_body : He.DefD := ⟨("_law_body", none), "_law_body", "_law_body", defArgs s__law_body, defBody s__law_body, defScope s__law_body, [], []⟩
def d__law_chunks : He.DefD := ⟨("_law_chunks", none), "_law_chunks", "_law_chunks", defArgs s__law_chunks, defBody s__law_chunks, defScope s__law_chunks, [], []⟩
def d__law_head : He.DefD := ⟨("_law_head", none), "_law_head", "_law_head", defArgs s__law_head, defBody s__law_head, defScope s__law_head, [], []⟩
def d__law_lines_of : He.DefD := ⟨("_law_lines_of", none), "_law_lines_of", "_law_lines_of", defArgs s__law_lines_of, defBody s__law_lines_of, defScope s__law_lines_of, [], []⟩
def d__law_framing : He.DefD := ⟨("_law_framing", none), "_law_framing", "_law_framing", defArgs s__law_framing, defBody s__law_framing, defScope s__law_framing, [], []⟩
def d__law_chunked : He.DefD := ⟨("_law_chunked", none), "_law_chunked", "_law_chunked", defArgs s__law_chunked, defBody s__law_chunked, defScope s__law_chunked, [], []⟩
def d__law_one : He.DefD := ⟨("_law_one", none), "_law_one", "_law_one", defArgs s__law_one, defBody s__law_one, defScope s__law_one, [], []⟩
def d__law_spoilt_data : He.DefD := ⟨("_law_spoilt_data", none), "_law_spoilt_data", "_law_spoilt_data", defArgs s__law_spoilt_data, defBody s__law_spoilt_data, defScope s__law_spoilt_data, [], []⟩
def d__law_stream : He.DefD := ⟨("_law_stream", none), "_law_stream", "_law_stream", defArgs s__law_stream, defBody s__law_stream, defScope s__law_stream, [], []⟩
def d__law_asks : He.DefD := ⟨("_law_asks", none), "_law_asks", "_law_asks", defArgs s__law_asks, defBody s__law_asks, defScope s__law_asks, [], []⟩
def d__law_reader : He.DefD := ⟨("_law_reader", none), "_law_reader", "_law_reader", defArgs s__law_reader, defBody s__law_reader, defScope s__law_reader, [], []⟩
def d__law_start : He.DefD := ⟨("_law_start", none), "_law_start", "_law_start", defArgs s__law_start, defBody s__law_start, defScope s__law_start, [], []⟩
def d__law_field : He.DefD := ⟨("_law_field", none), "_law_field", "_law_field", defArgs s__law_field, defBody s__law_field, defScope s__law_field, [], []⟩
def d__law_frame : He.DefD := ⟨("_law_frame", none), "_law_frame", "_law_frame", defArgs s__law_frame, defBody s__law_frame, defScope s__law_frame, [], []⟩
def d_law : He.DefD := ⟨("law", none), "law", "law", defArgs s_law, defBody s_law, defScope s_law, [], []⟩
def fn0 : List He.DefD := [d_BadLine_init, d_BadFrame_init, d_is_integer, d_is_octet, d_is_data, d_is_line_octet, d_shown, d_line_text, d_code_of, d_octets, d_is_within, d_is_one_of, d_Book_init, d_book_of, d_joined, d_Message_init, d_Message_asks_switch, d_is_string, d_is_token, d_read_field, d_items_of, d_has_field, d_is_length, d_frame_error, d_plain_frame, d_request_frame, d_response_frame, d_persists, d_asks_upgrade, d_has_version_form]
def fn1 : List He.DefD := [d_version_of, d_read_request, d_is_status_word, d_read_status, d_read_size, d_Reader_init, d_Reader_look_open, d_Reader_feed, d_Reader_read_some, d_Reader_read_run, d_Reader_fail, d_Reader_read_octet, d_Reader_read_chunk_end, d_Reader_read_line_end, d_Reader_read_line, d_Reader_begin_chunk, d_Reader_read_start, d_Reader_read_field_line, d_Reader_end_head, d_Reader_begin_body, d_Reader_end_message, d_Reader_expect, d__law_bag, d__law_take, d__law_pick, d__law_book, d__law_line, d__law_read, d__law_fail, d__law_next_line]
def fn2 : List He.DefD := [d__law_fields, d__law_message, d__law_data, d__law_body, d__law_chunks, d__law_head, d__law_lines_of, d__law_framing, d__law_chunked, d__law_one, d__law_spoilt_data, d__law_stream, d__law_asks, d__law_reader, d__law_start, d__law_field, d__law_frame, d_law]
def fn : List He.DefD := fn0 ++ fn1 ++ fn2
def fa0 : List He.Fa := [.glo "_wall", .glo "NoText", .glo "NoData", .glo "BadLine", .glo "BadBook", .glo "BadFrame", .glo "BadKind", .glo "BadEvent", .glo "Closed", .str "CHARACTERS" " !\"#$&'()*+,-./0123456789:;<=>?@ABCDEFGHIJKLMNOPQRSTUVWXYZ[\\]^_`abcdefghijklmnopqrstuvwxyz{|}~", .int "MOST_OCTETS" 4000, .int "RETURN_octets" 13, .int "FEED_octets" 10, .int "TAB" 9, .int "PERCENT" 37, .int "FIRST" 32, .int "LAST" 126, .glo "is_integer", .glo "is_octet", .glo "is_data", .glo "is_line_octet", .glo "shown", .glo "line_text", .glo "code_of", .glo "octets", .str "REFUSE" "refuse", .str "CHUNKED_books" "chunked", .str "EQUAL" "equal", .str "ACCEPT" "accept", .glo "is_within"]
def fa1 : List He.Fa := [.glo "is_one_of", .glo "Book", .glo "DEFAULTS", .glo "book_of", .str "REQUEST" "request", .str "RESPONSE" "response", .str "INFO_events" "info", .str "DATA" "data", .str "END" "end", .str "RAW" "raw", .str "CLOSE_events" "close", .str "ERROR" "error", .str "REQUESTS" "requests", .str "RESPONSES" "responses", .str "START" "start", .str "HEAD" "head", .str "BODY" "body", .str "WAITING" "waiting", .str "SWITCHED" "raw", .str "OVER" "over", .str "CLOSED" "closed", .str "WRONG" "wrong", .glo "joined", .glo "Message", .str "LETTERS" "abcdefghijklmnopqrstuvwxyz", .str "DIGITS" "0123456789", .str "TOKEN_SIGNS" "!#$&'*+-.^_`|~", .glo "is_string", .glo "is_token", .glo "read_field"]
def fa2 : List He.Fa := [.glo "items_of", .str "LENGTH_frames" "length", .str "CHUNKED_frames" "chunked", .str "CLOSE_frames" "close", .str "INFO_frames" "info", .str "SWITCH" "switch", .str "CODING_FIELD" "transfer-encoding", .str "LENGTH_FIELD" "content-length", .int "SWITCHING" 101, .glo "EMPTY", .glo "has_field", .glo "is_length", .glo "frame_error", .glo "plain_frame", .glo "request_frame", .glo "response_frame", .glo "persists", .glo "asks_upgrade", .glo "VERSIONS", .str "HEXADECIMAL" "0123456789abcdef", .int "MOST_SIZE_DIGITS" 6, .glo "has_version_form", .glo "version_of", .glo "read_request", .glo "is_status_word", .glo "read_status", .glo "read_size", .int "RETURN_reader" 13, .int "FEED_reader" 10, .str "NONE" ""]
def fa3 : List He.Fa := [.str "LENGTH_reader" "length", .str "SIZE" "size", .str "CHUNK" "chunk", .str "CHUNK_END" "chunk end", .str "TRAILERS" "trailers", .str "REST" "rest", .glo "Reader", .glo "_law_bag", .glo "_law_take", .glo "_law_pick", .glo "_law_book", .glo "_law_line", .glo "_law_read", .glo "_law_fail", .glo "_law_next_line", .glo "_law_fields", .glo "_law_message", .glo "_law_data", .glo "_law_body", .glo "_law_chunks", .glo "_law_head", .glo "_law_lines_of", .glo "_law_framing", .glo "_law_chunked", .glo "_law_one", .glo "_law_spoilt_data", .glo "_law_stream", .glo "_law_asks", .glo "_law_reader", .glo "_law_start"]
def fa4 : List He.Fa := [.glo "_law_field", .glo "_law_frame", .glo "law", .cls "Book", .mkr "Book", .noat "Book" "both", .noat "Book" "lengths", .noat "Book" "old_chunked", .noat "Book" "keep_old", .noat "Book" "most_line", .noat "Book" "most_fields", .noat "Book" "most_digits", .cls "Message", .mkr "Message", .noat "Message" "method", .noat "Message" "upgrade", .noat "Message" "last", .cls "Reader", .mkr "Reader", .noat "Reader" "book", .noat "Reader" "kind", .noat "Reader" "now", .noat "Reader" "part", .noat "Reader" "count", .noat "Reader" "line", .noat "Reader" "is_ending", .noat "Reader" "start", .noat "Reader" "fields", .noat "Reader" "left", .noat "Reader" "expected"]
def fa5 : List He.Fa := [.noat "Reader" "message", .noat "Reader" "is_last", .noat "Reader" "skips_wait", .noat "Reader" "is_closed", .meth "Message" "asks_switch", .meth "Reader" "look_open", .meth "Reader" "feed", .meth "Reader" "read_some", .meth "Reader" "read_run", .meth "Reader" "fail", .meth "Reader" "read_octet", .meth "Reader" "read_chunk_end", .meth "Reader" "read_line_end", .meth "Reader" "read_line", .meth "Reader" "begin_chunk", .meth "Reader" "read_start", .meth "Reader" "read_field_line", .meth "Reader" "end_head", .meth "Reader" "begin_body", .meth "Reader" "end_message", .meth "Reader" "expect", .free "isinstance", .free "int", .free "bool", .free "len", .free "all", .free "list", .free "str", .free "enumerate", .free "tuple"]
def fa6 : List He.Fa := [.free "min", .free "max", .free "abs", .free "range", .free "ValueError"]
def fa : List He.Fa := fa0 ++ fa1 ++ fa2 ++ fa3 ++ fa4 ++ fa5 ++ fa6
def loose0 : List Str := ["_wall", "NoText", "NoData", "BadLine", "BadBook", "BadFrame", "BadKind", "BadEvent", "Closed", "CHARACTERS", "MOST_OCTETS", "RETURN_octets", "FEED_octets", "TAB", "PERCENT", "FIRST", "LAST", "is_integer", "is_octet", "is_data", "is_line_octet", "shown", "line_text", "code_of", "octets", "REFUSE", "CHUNKED_books", "EQUAL", "ACCEPT", "is_within"]
def loose1 : List Str := ["is_one_of", "Book", "DEFAULTS", "book_of", "REQUEST", "RESPONSE", "INFO_events", "DATA", "END", "RAW", "CLOSE_events", "ERROR", "REQUESTS", "RESPONSES", "START", "HEAD", "BODY", "WAITING", "SWITCHED", "OVER", "CLOSED", "WRONG", "joined", "Message", "LETTERS", "DIGITS", "TOKEN_SIGNS", "is_string", "is_token", "read_field"]
def loose2 : List Str := ["items_of", "LENGTH_frames", "CHUNKED_frames", "CLOSE_frames", "INFO_frames", "SWITCH", "CODING_FIELD", "LENGTH_FIELD", "SWITCHING", "EMPTY", "has_field", "is_length", "frame_error", "plain_frame", "request_frame", "response_frame", "persists", "asks_upgrade", "VERSIONS", "HEXADECIMAL", "MOST_SIZE_DIGITS", "has_version_form", "version_of", "read_request", "is_status_word", "read_status", "read_size", "RETURN_reader", "FEED_reader", "NONE"]
def loose3 : List Str := ["LENGTH_reader", "SIZE", "CHUNK", "CHUNK_END", "TRAILERS", "REST", "Reader", "_law_bag", "_law_take", "_law_pick", "_law_book", "_law_line", "_law_read", "_law_fail", "_law_next_line", "_law_fields", "_law_message", "_law_data", "_law_body", "_law_chunks", "_law_head", "_law_lines_of", "_law_framing", "_law_chunked", "_law_one", "_law_spoilt_data", "_law_stream", "_law_asks", "_law_reader", "_law_start"]
def loose4 : List Str := ["_law_field", "_law_frame"]
def loose : List Str := loose0 ++ loose1 ++ loose2 ++ loose3 ++ loose4
def fa_more : List He.Fa := [.exm "BadLine" "BadLine" true, .exm "BadFrame" "BadLine" false, .exm "BadFrame" "BadFrame" true, .noat "BadLine" "kind", .noat "BadFrame" "kind"]
def ts : List He.Tab := [(fun K => He.ga K "VERSIONS", ["HTTP/1.0", "HTTP/1.1"])]
/-! ### more facts of the written part, as Bools -/
def oexB (K : PySem.W.Frag) (C : Addr) : Bool := match K.lookup C with
  | some ⟨.type "type", _, .cls cd, sl⟩ => (match cd.mro, sl.toList with
    | .ref C' :: bm, [_, _, _, _, some (.builtin n), _] => decide (C' = C) && (decide (n = "ValueError.__new__") && (!cd.hasDel && (cd.hasDict && PySem.HandSPX.refsVE bm)))
    | _, _ => false)
  | _ => false
theorem oexB_ok {K : PySem.W.Frag} {C : Addr} (q : oexB K C = true) :
    ∃ nm q N bs bm sn sub ab col dd k0 k1 k2 k3 k5, K.lookup C = some (excClassObj nm q C N bs bm true sn sub ab col dd k0 k1 k2 k3 k5 "ValueError.__new__") ∧ PySem.HandSPX.refsVE bm = true := by
  unfold oexB at q
  split at q
  · rename_i dd cd sl ho
    split at q
    · rename_i C' bm k0 k1 k2 k3 n k5 hm hs
      simp only [Bool.and_eq_true, decide_eq_true_eq, Bool.not_eq_true'] at q
      obtain ⟨rfl, rfl, hdel, hdc, hr⟩ := q
      obtain ⟨nm, bs, mro, ns, qn, hd, sn, sub, ab, col, del⟩ := cd
      dsimp only at hm hdel hdc
      subst hm hdel hdc
      have hsl : sl = #[k0, k1, k2, k3, some (.builtin "ValueError.__new__"), k5] := by
        obtain ⟨l⟩ := sl
        simp only at hs
        rw [hs]
      subst hsl
      exact ⟨nm, qn, ns, bs, bm, sn, sub, ab, col, dd, k0, k1, k2, k3, k5, ho, hr⟩
    · cases q
  · cases q
def excB (K : PySem.W.Frag) (x : Str) : Bool := oexB K (He.ga K x) && (He.eqO (PySem.W.findIn K (.ref (He.ga K x)) "__setattr__") (some (some (.builtin "object.__setattr__"))) &&
  (decide (PySem.W.subIn K (.ref (He.ga K x)) (.type "BaseException") = some true) && (decide (PySem.W.typeIn K (.ref (He.ga K x)) = some (.type "type")) && (PySem.W.keepIn K (.ref (He.ga K x)) &&
  (He.eqO (PySem.W.findIn K (.ref (He.ga K x)) "__init__") (some (some (.ref (He.ma K (He.ga K x) "__init__")))) && (decide (PySem.W.typeIn K (.ref (He.ma K (He.ga K x) "__init__")) = some (.type "function")) && xfB K (He.ga K x)))))))
/-- an own exception class with an __init__ of its own, its field read -/
structure ExcH0 (K : PySem.W.Frag) (C fI : Addr) : Prop where
  oex : OexC K C
  xf : XfC K C
  ini : PySem.W.findIn K (.ref C) "__init__" = some (some (.ref fI))
  ty : PySem.W.typeIn K (.ref fI) = some (.type "function")
theorem excB_ok {K : PySem.W.Frag} {x : Str} (h : excB K x = true) : ExcH0 K (He.ga K x) (He.ma K (He.ga K x) "__init__") := by
  obtain ⟨h1, h⟩ := He.ba h
  obtain ⟨h2, h⟩ := He.ba h
  obtain ⟨h3, h⟩ := He.ba h
  obtain ⟨h4, h⟩ := He.ba h
  obtain ⟨h5, h⟩ := He.ba h
  obtain ⟨h6, h⟩ := He.ba h
  obtain ⟨h7, h8⟩ := He.ba h
  exact ⟨⟨oexB_ok h1, He.eqO_ok h2, of_decide_eq_true h3, of_decide_eq_true h4, h5⟩, xfB_ok h8, He.eqO_ok h6, of_decide_eq_true h7⟩
def insB (K : PySem.W.Frag) (x : Str) : Bool := He.eqO (PySem.W.findIn K (.ref (He.ga K x)) "__class__") (some (some (.builtin "object.__class__"))) && (He.eqO (PySem.W.specialIn K (.builtin "object.__class__") "__get__") (some (some (.builtin "getset_descriptor.__get__"))) &&
  (decide (PySem.W.takesIn K (.builtin "object.__class__") = some true) && (decide (PySem.W.mroIn K (He.ga K x) (.type "object") = some true) && decide (PySem.W.kitOne K (.ref (He.ga K x)) (.ref (He.ga K x)) = some true))))
theorem insB_ok {K : PySem.W.Frag} {x : Str} (cl : Cls K (He.ga K x)) (h : insB K x = true) : C8.InsC K (He.ga K x) := by
  obtain ⟨h1, h⟩ := He.ba h
  obtain ⟨h2, h⟩ := He.ba h
  obtain ⟨h3, h⟩ := He.ba h
  obtain ⟨h4, h5⟩ := He.ba h
  exact ⟨cl, He.eqO_ok h1, He.eqO_ok h2, of_decide_eq_true h3, of_decide_eq_true h4, of_decide_eq_true h5⟩
/-- the property's getter -/
def proG (K : PySem.W.Frag) : Addr := match PySem.W.recIn K (He.ma K (He.ga K "Reader") "state") "property" with
  | some (.ref g :: _) => g
  | _ => 0
def noneB : Value → Bool
  | .none => true
  | _ => false
def proB (K : PySem.W.Frag) : Bool := He.eqO (PySem.W.findIn K (.ref (He.ga K "Reader")) "state") (some (some (.ref (He.ma K (He.ga K "Reader") "state")))) &&
  (He.eqO (PySem.W.specialIn K (.ref (He.ma K (He.ga K "Reader") "state")) "__get__") (some (some (.builtin "property.__get__"))) &&
  (decide (PySem.W.takesIn K (.ref (He.ma K (He.ga K "Reader") "state")) = some true) && ((match PySem.W.recIn K (He.ma K (He.ga K "Reader") "state") "property" with
    | some (.ref _ :: _) => true
    | _ => false) && (match K.lookup (proG K) with
  | some ⟨_, _, .func fd, _⟩ => PySem.W.codeIn K fd.code "Reader.state" && noneB fd.defaults
  | _ => false))))
def fnAt (K : PySem.W.Frag) (a : Addr) : He.FnW := match K.lookup a with
  | some ⟨_, _, .func fd, _⟩ => some (fd.name, fd.qualname, fd.params, fd.body, fd.scope, fd.globals, fd.closure, fd.builtins)
  | _ => none
abbrev s_state : Stmt := inClass (top 104) 1
def getV : He.FnW := some (("state" : Str), ("Reader.state" : Str), defArgs s_state, FuncBody.stmts (defBody s_state), defScope s_state, mainGlobals, [], builtinsNs)
theorem proB_ok {K : PySem.W.Frag} (h : proB K = true) (e : fnAt K (proG K) = getV) :
    PropOf K (He.ga K "Reader") "state" (He.ma K (He.ga K "Reader") "state") (proG K) ∧
    ∃ oc od kV doc pm an cdv ct osl, K.lookup (proG K) = some ⟨oc, od, .func (PySem.W.fnOf "state" "Reader.state" (defArgs s_state) (defBody s_state) (defScope s_state) .none kV doc pm an cdv ct), osl⟩ ∧ PySem.W.codeIn K cdv "Reader.state" = true := by
  obtain ⟨h1, h⟩ := He.ba h
  obtain ⟨h2, h⟩ := He.ba h
  obtain ⟨h3, h⟩ := He.ba h
  obtain ⟨h4, h5⟩ := He.ba h
  constructor
  · refine ⟨He.eqO_ok h1, He.eqO_ok h2, of_decide_eq_true h3, ?_⟩
    unfold proG
    split at h4
    · rename_i g r q
      rw [q]
      exact ⟨r, rfl⟩
    · cases h4
  · unfold fnAt at e
    cases q : K.lookup (proG K) with
    | none =>
      rw [q] at h5
      cases h5
    | some o =>
      obtain ⟨oc, od, dt, osl⟩ := o
      rw [q] at h5 e
      cases dt with
      | func fd =>
        obtain ⟨n1, n2, n3, n4, n5, n6, n7, n8, n9, n10, n11, n12, n13, n14, n15⟩ := fd
        have e2 : (some (n1, n2, n3, n4, n5, n6, n7, n15) : He.FnW) = some (("state" : Str), ("Reader.state" : Str), defArgs s_state, FuncBody.stmts (defBody s_state), defScope s_state, mainGlobals, [], builtinsNs) := e
        simp only [Option.some.injEq, Prod.mk.injEq] at e2
        obtain ⟨e3, e4, e5, e6, e7, e8, e9, e10⟩ := e2
        subst e3 e4 e5 e6 e7 e8 e9 e10
        obtain ⟨h6, h7⟩ := He.ba h5
        have e11 : n8 = Value.none := by
          revert h7
          cases n8 <;> first
            | exact fun _ => rfl
            | exact fun z => Bool.noConfusion z
        subst e11
        exact ⟨_, _, _, _, _, _, _, _, _, rfl, h6⟩
      | _ => cases h5
def vers : List (Str × He.Dv) := [("HTTP/1.0", .int 0), ("HTTP/1.1", .int 1)]
def more (K : PySem.W.Frag) : Bool := (fa_more.all fun f => f.ok K) && (excB K "BadLine" && (excB K "BadFrame" && (insB K "Book" && (proB K && (He.tupB K "EMPTY" [.int 204, .int 304] && He.valsB K (He.ga K "VERSIONS") vers)))))
/-! ### what of the heap is looked at -/
def refF (o : Obj) : List Addr := match o.data with
  | .func fd => He.refV fd.code ++ He.refV fd.kwdefaults
  | .cls cd => [cd.ns]
  | _ => []
def refD (o : Obj) : List Addr := match o.data with
  | .dict es _ => es.toList.flatMap fun e => He.refV e.val
  | _ => []
def refP (o : Obj) : List Addr := match o.data with
  | .func fd => He.refV fd.code ++ He.refV fd.kwdefaults
  | .fields vs => vs.toList.flatMap He.refV
  | _ => []
def stepG (g : Addr → Option Obj) (r : Obj → List Addr) (as : List Addr) : List Addr := as.flatMap fun a => match g a with
  | some o => r o
  | none => []
def all4 (a b c d e f : List Addr) : List Addr := a ++ (b ++ (c ++ (d ++ (e ++ f))))
def asP (g : Addr → Option Obj) : List Addr :=
  let l0 : List Addr := [mainGlobals]
  let l1 := stepG g refD l0
  let l2 := stepG g refF l1
  let l3 := stepG g refD l2
  let l4 := stepG g refP l3
  let l5 := stepG g refF l4
  all4 l0 l1 l2 l3 l4 l5
abbrev AlP : Type := He.AlT × (Bool × He.FnW)
def obsP (K : PySem.W.Frag) : AlP := (He.obsT fa fn ts K, more K, fnAt K (proG K))
def valP (w : World) : AlP := (He.valT fn ts w, true, getV)
def frcL {α : Type} : List Addr → (List Addr → α) → α
  | [], k => k []
  | a :: r, k => HandSHeadRun.frNat a fun a => frcL r fun r => k (a :: r)
theorem frcL_eq {α : Type} : ∀ (l : List Addr) (k : List Addr → α), frcL l k = k l
  | [], _ => rfl
  | a :: r, k => by
    show HandSHeadRun.frNat a (fun a => frcL r fun r => k (a :: r)) = k (a :: r)
    rw [HandSHeadRun.frNat_eq, frcL_eq r]
def obsPG (g : Addr → Option Obj) : AlP := frcL (asP g) fun as => obsP (He.frG g as)
def SaysP (w : World) (K : PySem.W.Frag) : Prop := obsP K = valP w
def hookP : PySem.W.Hook where
  α := AlP
  obs := fun s => obsPG s.heap.get?
  val := fun w => valP w
  says := fun w h => ∃ K : PySem.W.Frag, K.In h ∧ SaysP w K
  of := fun w s e => ⟨He.frG s.heap.get? (asP s.heap.get?), He.frG_in, by
    have e2 : frcL (asP s.heap.get?) (fun as => obsP (He.frG s.heap.get? as)) = valP w := e
    rw [frcL_eq] at e2
    exact e2⟩
  keeps := fun _ _ _ ⟨K, hK, c⟩ k => ⟨K, PySem.W.Frag.In.keeps hK k, c⟩
abbrev R : PySem.W.OpenRow := PySem.W.OpenLaw.row PySem.Challenge.rw_chunkletters_k32_whole_octet_by_octet
def ob (s : PySem.W.SharedT) : AlP := obsPG (HandSHeadRun.getT s)
theorem ob_eq (s : PySem.W.SharedT) : ob s = hookP.obs s.abs := by
  have e : HandSHeadRun.getT s = s.abs.heap.get? := funext (HandSHeadRun.getT_eq s)
  unfold ob
  rw [e] <;> rfl
end K32H

namespace K32H
open PySem PySem.Spec PyProof.Rows L2 K32
theorem run0 (w : World) : HandSHeadRun.RunEq R (PySem.W.view R.prog [131]) hookP ob 20000 loose (w.withFollow "special-get-raises" false) := by
  intro os
  kernel_rfl
theorem run1 (w : World) : HandSHeadRun.RunEq R (PySem.W.view R.prog [131]) hookP ob 20000 loose (w.withFollow "special-get-raises" true) := by
  intro os
  kernel_rfl
theorem run (w : World) : HandSHeadRun.RunEq R (PySem.W.view R.prog [131]) hookP ob 20000 loose w := PySem.W.byRow2 "special-get-raises" run0 run1 w
end K32H

namespace K32
open PySem PySem.Spec PyProof.Rows L2
/-! ### mirrors: octets and signs -/
abbrev CHARS : Str := " !\"#$&'()*+,-./0123456789:;<=>?@ABCDEFGHIJKLMNOPQRSTUVWXYZ[\\]^_`abcdefghijklmnopqrstuvwxyz{|}~"
def okC (c : Nat) : Bool := decide (32 ≤ c) && (decide (c ≤ 126) && !decide (c = 37))
theorem chars_list : CHARS.cps.toList = (List.range 127).filter okC := by decide +kernel
theorem mem_chars {c : Nat} : c ∈ CHARS.cps.toList ↔ okC c = true := by
  rw [chars_list, List.mem_filter, List.mem_range]
  constructor
  · exact fun h => h.2
  · intro h
    refine ⟨?_, h⟩
    unfold okC at h
    simp only [Bool.and_eq_true, decide_eq_true_eq] at h
    omega
theorem okC_lt {c : Nat} (h : okC c = true) : c < 127 := by
  unfold okC at h
  simp only [Bool.and_eq_true, decide_eq_true_eq] at h
  omega
def okS (z : Str) : Prop := ∀ c ∈ z.cps.toList, okC c = true
def octB (i : Int) : Bool := decide (i = 9) || (decide (32 ≤ i) && decide (i ≤ 126) && !decide (i = 37))
def chN (i : Int) : Nat := if i = 9 then 32 else i.toNat
def lineS (os : List Int) : Str := ⟨(os.map chN).toArray⟩
theorem lineS_len (os : List Int) : (lineS os).length = os.length := by
  show ((os.map chN).toArray).size = os.length
  simp
theorem octB_ok {i : Int} (h : octB i = true) : okC (chN i) = true := by
  unfold octB at h
  unfold okC chN
  simp only [Bool.or_eq_true, Bool.and_eq_true, decide_eq_true_eq, Bool.not_eq_true', decide_eq_false_iff_not] at h ⊢
  split <;> omega
theorem lineS_ok {os : List Int} (h : ∀ o ∈ os, octB o = true) : okS (lineS os) := by
  intro c hc
  have hc' : c ∈ os.map chN := by simpa [lineS] using hc
  obtain ⟨o, ho, rfl⟩ := List.mem_map.mp hc'
  exact octB_ok (h o ho)
theorem chars_at : ∀ n : Nat, n < 127 → okC n = true → CHARS.cps.toList[n - 32 - (if 37 < n then 1 else 0)]? = some n := by decide +kernel
theorem chars_atI {i : Int} (h : octB i = true) (h9 : ¬ i = 9) : atI CHARS.cps.toList (i - 32 - (if decide (37 < i) = true then 1 else 0)) = some (chN i) := by
  have hok := octB_ok h
  have hlt := okC_lt hok
  have h1 := chars_at (chN i) hlt hok
  have ec : (chN i : Int) = i := by
    unfold octB at h
    unfold chN
    simp only [Bool.or_eq_true, Bool.and_eq_true, decide_eq_true_eq] at h
    rw [if_neg h9]
    omega
  have e : i - 32 - (if decide (37 < i) = true then 1 else 0) = ((chN i - 32 - (if 37 < chN i then 1 else 0) : Nat) : Int) := by
    unfold okC at hok
    simp only [Bool.and_eq_true, decide_eq_true_eq] at hok
    by_cases q : 37 < i
    · rw [if_pos (decide_eq_true q), if_pos (by omega)]
      omega
    · rw [decide_eq_false q, if_neg Bool.false_ne_true, if_neg (by omega)]
      omega
  rw [e]
  exact atI_nat h1
theorem join_signs (l : List Nat) : Txt.join "" (l.map fun c => (⟨#[c]⟩ : Str)) = ⟨l.toArray⟩ := by
  rw [TL.join_eq]
  refine TL.ext_tl ?_
  rw [TL.tl_join, List.map_map]
  have e0 : TL.tl ("" : Str) = [] := by decide +kernel
  rw [e0]
  show TL.joinL [] (l.map fun c => [c]) = l
  induction l with
  | nil => rfl
  | cons a r ih =>
    cases r with
    | nil => rfl
    | cons b s =>
      have : TL.joinL [] ([a] :: (([b] :: s.map fun c => [c]))) = [a] ++ ([] ++ TL.joinL [] ([b] :: s.map fun c => [c])) := by
        first
          | rfl
          | simp [TL.joinL]
      show TL.joinL [] ([a] :: ([b] :: s.map fun c => [c])) = a :: b :: s
      rw [this]
      show [a] ++ ([] ++ TL.joinL [] ((b :: s).map fun c => [c])) = a :: b :: s
      rw [ih] <;> rfl
theorem sum_ones : ∀ l : List Nat, ((l.map fun c => (⟨#[c]⟩ : Str)).map (·.length)).sum = l.length
  | [] => rfl
  | a :: r => by
    have ih := sum_ones r
    simp only [List.map_cons, List.sum_cons, List.length_cons] at ih ⊢
    rw [ih]
    show 1 + r.length = r.length + 1
    omega
end K32
namespace K32
open PySem PySem.Spec PyProof.Rows L2
/-! ### mirrors: lengths of parts -/
theorem spl_len (S : List Nat) : ∀ (l : List Nat) (k : Nat) (acc : List Nat) (p : List Nat), p ∈ TL.spl S k acc l → p.length ≤ acc.length + l.length
  | [], k, acc, p, h => by
    rw [TL.spl_nil] at h
    rw [List.mem_singleton.mp h]
    exact Nat.le_add_right _ _
  | c :: r, 0, acc, p, h => by
    cases q : TL.pre S (c :: r) with
    | true =>
      rw [TL.spl_hit q] at h
      rcases List.mem_cons.mp h with rfl | h
      · exact Nat.le_add_right _ _
      · have := spl_len S r _ _ p h
        simp only [List.length_nil, List.length_cons] at this ⊢
        omega
    | false =>
      rw [TL.spl_miss q] at h
      have := spl_len S r _ _ p h
      simp only [List.length_append, List.length_cons, List.length_nil] at this ⊢
      omega
  | c :: r, k + 1, acc, p, h => by
    have := spl_len S r k acc p h
    simp only [List.length_cons] at this ⊢
    omega
theorem spl_num (S : List Nat) : ∀ (l : List Nat) (k : Nat) (acc : List Nat), (TL.spl S k acc l).length ≤ l.length + 1
  | [], k, acc => by
    rw [TL.spl_nil]
    exact Nat.le_refl _
  | c :: r, 0, acc => by
    cases q : TL.pre S (c :: r) with
    | true =>
      rw [TL.spl_hit q]
      have := spl_num S r (S.length - 1) []
      simp only [List.length_cons] at this ⊢
      omega
    | false =>
      rw [TL.spl_miss q]
      have := spl_num S r 0 (acc ++ [c])
      simp only [List.length_cons] at this ⊢
      omega
  | c :: r, k + 1, acc => by
    have := spl_num S r k acc
    show (TL.spl S k acc r).length ≤ _
    simp only [List.length_cons] at this ⊢
    omega
theorem par_len (S : List Nat) : ∀ (l acc a b : List Nat), TL.par S acc l = some (a, b) → a.length ≤ acc.length + l.length ∧ b.length ≤ l.length
  | [], acc, a, b, h => by
    exact absurd (show (none : Option (List Nat × List Nat)) = some (a, b) from h) (by simp)
  | c :: r, acc, a, b, h => by
    cases q : TL.pre S (c :: r) with
    | true =>
      rw [TL.par_hit q] at h
      have e := Option.some.inj h
      have e1 : acc = a := congrArg Prod.fst e
      have e2 : (c :: r).drop S.length = b := congrArg Prod.snd e
      rw [← e1, ← e2, List.length_drop]
      omega
    | false =>
      rw [TL.par_miss q] at h
      have := par_len S r _ a b h
      simp only [List.length_append, List.length_cons, List.length_nil] at this ⊢
      omega
/-- a separator of one plain sign -/
structure Sep (y : Str) : Prop where
  ne : TL.tl y ≠ []
  plain : y.cps.all (· < 256) = true
theorem split_len {x y p : Str} (s : Sep y) (h : p ∈ Txt.split x y) : p.length ≤ x.length := by
  have e := TL.split_spl x y s.ne (TL.kind_ok s.plain)
  have hm : TL.tl p ∈ TL.spl (TL.tl y) 0 [] (TL.tl x) := by
    rw [← e]
    exact List.mem_map_of_mem h
  have := spl_len _ _ _ _ _ hm
  rw [TL.len_tl, TL.len_tl]
  simpa using this
theorem split_num {x y : Str} (s : Sep y) : (Txt.split x y).length ≤ x.length + 1 := by
  have e := TL.split_spl x y s.ne (TL.kind_ok s.plain)
  have h := spl_num (TL.tl y) (TL.tl x) 0 []
  rw [← e, List.length_map] at h
  rw [TL.len_tl]
  exact h
theorem part_len {x y : Str} (s : Sep y) : (Txt.partition x y).1.length ≤ x.length ∧ (Txt.partition x y).2.2.length ≤ x.length := by
  rw [TL.partition_par x y s.ne]
  cases q : TL.par (TL.tl y) [] (TL.tl x) with
  | none => exact ⟨Nat.le_refl _, Nat.zero_le _⟩
  | some r =>
    obtain ⟨a, b⟩ := r
    have h := par_len _ _ _ _ _ q
    have hx := TL.len_tl x
    show (⟨a.toArray⟩ : Str).length ≤ x.length ∧ (⟨b.toArray⟩ : Str).length ≤ x.length
    have e1 : (⟨a.toArray⟩ : Str).length = a.length := by simp [Str.length]
    have e2 : (⟨b.toArray⟩ : Str).length = b.length := by simp [Str.length]
    rw [e1, e2, hx]
    simpa using h
theorem sep_colon : Sep ":" := ⟨by decide +kernel, by decide +kernel⟩
theorem sep_comma : Sep "," := ⟨by decide +kernel, by decide +kernel⟩
theorem sep_blank : Sep " " := ⟨by decide +kernel, by decide +kernel⟩
theorem sep_semi : Sep ";" := ⟨by decide +kernel, by decide +kernel⟩
theorem join_len (y : Str) : ∀ ys : List Str, (Txt.join y ys).length ≤ (ys.map (·.length)).sum + ys.length * y.length := by
  intro ys
  rw [TL.join_eq]
  induction ys with
  | nil => exact Nat.zero_le _
  | cons a r ih =>
    cases r with
    | nil =>
      show a.length ≤ _
      simp
    | cons b s =>
      show (a ++ y ++ Str.join y (b :: s)).length ≤ _
      have e : (a ++ y ++ Str.join y (b :: s)).length = a.length + y.length + (Str.join y (b :: s)).length := by
        have h1 : ∀ p q : Str, (p ++ q).length = p.length + q.length := fun p q => by
          show (p.cps ++ q.cps).size = _
          rw [Array.size_append]
          rfl
        rw [h1, h1]
      rw [e]
      simp only [List.map_cons, List.sum_cons, List.length_cons] at ih ⊢
      have : (s.length + 1 + 1) * y.length = (s.length + 1) * y.length + y.length := by rw [Nat.succ_mul]
      omega
theorem str_len_app (p q : Str) : (p ++ q).length = p.length + q.length := by
  show (p.cps ++ q.cps).size = _
  rw [Array.size_append]
  rfl
theorem code_at : ∀ n : Nat, n < 127 → okC n = true → 32 + Txt.find CHARS ⟨#[n]⟩ + (if decide (37 ≤ 32 + Txt.find CHARS ⟨#[n]⟩) = true then 1 else 0) = (n : Int) := by decide +kernel
/-! ### mirrors: tokens, fields, items -/
abbrev LETTERS : Str := "abcdefghijklmnopqrstuvwxyz"
abbrev DIGITS : Str := "0123456789"
abbrev TSIGNS : Str := "!#$&'*+-.^_`|~"
def tokC (c : Nat) : Bool := !(Builtin.Str.occurrences LETTERS (Txt.lower ⟨#[c]⟩) 0 LETTERS.length 1).isEmpty || (decide (c ∈ DIGITS.cps.toList) || decide (c ∈ TSIGNS.cps.toList))
def isTok (z : Str) : Bool := !decide (z = "") && z.cps.toList.all tokC
def mField (z : Str) : Option Fld :=
  if (Txt.partition z ":").2.1 = "" ∨ isTok (Txt.partition z ":").1 = false then none else some (Txt.lower (Txt.partition z ":").1, Txt.stripChars (Txt.partition z ":").2.2 " ")
theorem mField_ok {z : Str} {f : Fld} (hz : z.length ≤ 200) (h : mField z = some f) : f.1.length ≤ 1000 ∧ f.2.length ≤ 200 := by
  unfold mField at h
  split at h
  · cases h
  · cases h
    have h1 := part_len (x := z) sep_colon
    have h2 := PyProof.Rows.len_lower (Txt.partition z ":").1
    have h3 := PyProof.Rows.len_stripChars (Txt.partition z ":").2.2 " "
    exact ⟨by show (Txt.lower _).length ≤ _; omega, by show (Txt.stripChars _ _).length ≤ _; omega⟩
def valsOf (fs : List Fld) (name : Str) : List Str := (fs.filter fun f => decide (f.1 = Txt.lower name)).map (·.2)
def itemsOf (fs : List Fld) (name : Str) : List Str := ((Txt.split (Txt.join "," (valsOf fs name)) ",").map fun p => Txt.lower (Txt.stripChars p " ")).filter fun p => !decide (p = "")
theorem sum_le {ys : List Str} {n : Nat} (h : ∀ y ∈ ys, y.length ≤ n) : (ys.map (·.length)).sum ≤ ys.length * n := by
  induction ys with
  | nil => exact Nat.zero_le _
  | cons a r ih =>
    have h1 := h a List.mem_cons_self
    have h2 := ih fun y hy => h y (List.mem_cons_of_mem _ hy)
    simp only [List.map_cons, List.sum_cons, List.length_cons, Nat.succ_mul]
    omega
theorem vals_ok {fs : List Fld} {name : Str} (h : OkFs fs) : (valsOf fs name).length ≤ 20 ∧ ∀ y ∈ valsOf fs name, y.length ≤ 200 := by
  constructor
  · unfold valsOf
    rw [List.length_map]
    exact Nat.le_trans (List.length_filter_le _ _) h.1
  · intro y hy
    obtain ⟨f, hf, rfl⟩ := List.mem_map.mp hy
    exact (h.2 f (List.mem_filter.mp hf).1).2
theorem joined_len {fs : List Fld} {name : Str} (h : OkFs fs) : (((valsOf fs name).map (·.length)).sum + (valsOf fs name).length * ("," : Str).length ≤ 4020) ∧ (Txt.join "," (valsOf fs name)).length ≤ 4020 := by
  obtain ⟨h1, h2⟩ := vals_ok (name := name) h
  have h3 := sum_le h2
  have h4 := join_len "," (valsOf fs name)
  have e1 : ("," : Str).length = 1 := by decide +kernel
  rw [e1] at h4 ⊢
  have : (valsOf fs name).length * 200 ≤ 20 * 200 := Nat.mul_le_mul_right _ h1
  omega
theorem items_len {fs : List Fld} {name y : Str} (h : OkFs fs) (hy : y ∈ itemsOf fs name) : y.length ≤ 12060 := by
  obtain ⟨p, hp, rfl⟩ := List.mem_map.mp (List.mem_filter.mp hy).1
  have h1 := split_len sep_comma hp
  have h2 := (joined_len (name := name) h).2
  have h3 := PyProof.Rows.len_stripChars p " "
  have h4 := PyProof.Rows.len_lower (Txt.stripChars p " ")
  omega
theorem items_num {fs : List Fld} {name : Str} (h : OkFs fs) : (itemsOf fs name).length ≤ 4021 := by
  unfold itemsOf
  refine Nat.le_trans (List.length_filter_le _ _) ?_
  rw [List.length_map]
  have h1 := split_num (x := Txt.join "," (valsOf fs name)) sep_comma
  have h2 := (joined_len (name := name) h).2
  omega
def hasF (fs : List Fld) (name : Str) : Bool := (fs.map (·.1)).any fun y => decide (y = name)
def isLen (z : Str) (most : Int) : Bool := (decide (1 ≤ (z.length : Int)) && decide ((z.length : Int) ≤ most)) && z.cps.toList.all fun c => decide (c ∈ DIGITS.cps.toList)
end K32

namespace K32
open PySem PySem.Spec PyProof.Rows L2 L2
/-! ### {number for x in ..}: the set of numbers -/
def SIO (w : World) (a : Addr) (S : Int → Bool) (n : Nat) : HO := .ext fun h => SetR w h a S n
theorem siO_new {w : World} {P : Program} {H : Hp} {h : Heap} {a : Addr} {S : Int → Bool} {n : Nat} (R : SetR w h a S n) : ObjOk P w H h a (SIO w a S n) := by
  refine ⟨R, ?_, fun h1 h2 p k => p.at k⟩
  obtain ⟨o, es, ep, t, ho, rest⟩ := R
  exact ⟨o, ho⟩
section
variable {X : Cx}
theorem addI_ok {pn0 : List (Addr × Obj)} {τ0 : L2.St} {G0 : Hp} {u0 : Shared} {E : Value → Shared → Prop} {D0 : Addr} {S : Int → Bool} {n : Nat} {y : Int} {tk : Tok} {Q0 : Value → Shared → Prop} (V0 : Inv X pn0 τ0 G0 u0) (hD0 : G0 D0 = some (SIO X.w D0 S n)) (room : n + 1 < scanBound)
    (hq : ∀ u', Inv X pn0 τ0 (upd G0 D0 (SIO X.w D0 (fun j => S j || decide (j = y)) (if S y = true then n else n + 1))) u' → Q0 .none u') : wpAny (model X.prog X.w) X.A (call (.builtin "set.add") [.ref D0, .int y tk]) Q0 E u0 := by
  have R : SetR X.w u0.heap D0 S n := (V0.hok D0 _ hD0).1
  refine setR_add R room fun hp' sb nw => hq _ (V0.write (e := D0) (t' := u0.toks + 1) (by rw [hD0]; trivial) (.inl rfl) (fun b u hb hu => (sb.2 b hb).trans hu) ?_ (siO_new nw))
  obtain ⟨o, es, ep, t, ho, rest⟩ := nw
  exact ⟨o, ho⟩
/-- D: the new set -/
def tIsc (w : World) (wi : TI) (g : TG) (tt : TT) (te : TE) (vs : List Nat) : TE := fun σ H Q => wi σ H fun J H1 => ∀ D, H1 D = none → ∃ W : Nat → Nat → Hp → Prop, (∃ m, W 0 m (upd H1 D (SIO w D (fun _ => false) 0))) ∧ ∀ i m H, W i m H →
  (J.stop i H ∧ Q (.ref D) H) ∨ (J.go i H ∧ ∃ Ny : Hp → Prop, (∀ H', Ny H' → ∃ m', m' < m ∧ W (i + 1) m' H') ∧ ∀ x H', J.yld i H x H' → g x (wipe σ vs) H' fun σ2 H2 => wipe σ2 vs = wipe σ vs ∧ tt σ2 H2 fun b H3 =>
    if b = true then te σ2 H3 fun y H4 => ∃ (c : Int) (S : Int → Bool) (n : Nat), y = .int c ∧ H4 D = some (SIO w D S n) ∧ n + 1 < scanBound ∧ Ny (upd H4 D (SIO w D (fun j => S j || decide (j = c)) (if S c = true then n else n + 1))) else Ny H3)
theorem isc_core {pn0 : List (Addr × Obj)} {u0 : Shared} {τ0 : L2.St} {G0 : Hp} {Q0 : VK} {el0 ta0 it0 : Expr} {if0 : List Expr} {sp0 : Scope} {ow0 : List (PySem.Str × Nat)} {po0 po1 : Pos} {wi0 : TI} {g0 : TG} {tt0 : TT} {te0 : TE} {us0 : Option (Value → Sem Unit)} {Qz : Value → Shared → Prop}
    (gg : X.calm = true) (gf : X.N.Nodup) (V0 : Inv X pn0 τ0 G0 u0) (ge : PI X ta0 it0 wi0) (bo : BlkOk X.N X.env.scope sp0 ow0)
    (ga : ∀ (u0 : Shared) (G0 : Hp) (C0 : Addr) (cl_ : List (PySem.Str × Addr)) (fps : List Addr), PG (X.blk u0 G0 sp0 (compEnvC sp0 cl_ C0 X.env) fps) ta0 g0) (gb : ∀ (u0 : Shared) (G0 : Hp) (C0 : Addr) (cl_ : List (PySem.Str × Addr)) (fps : List Addr), PTs (X.blk u0 G0 sp0 (compEnvC sp0 cl_ C0 X.env) fps) if0 tt0)
    (gc : ∀ (u0 : Shared) (G0 : Hp) (C0 : Addr) (cl_ : List (PySem.Str × Addr)) (fps : List Addr), PE (X.blk u0 G0 sp0 (compEnvC sp0 cl_ C0 X.env) fps) el0 te0) (gd : ∀ x0, foldedSetIterable it0 X.env x0 = pure x0)
    (hh0 : tIsc X.w wi0 g0 tt0 te0 (ow0.map (·.2)) τ0 G0 Q0)
    (hEnd : ∀ D0 C0 u' m_ G', Inv X pn0 τ0 G' u' → Q0 (.ref D0) G' → u'.heap.Ns C0 m_ → FpOk X pn0 G' C0 → compPost (model X.prog X.w) X.A X.xe us0 Qz (.ref D0) C0 (.ok .next) u') :
    wpAny (model X.prog X.w) X.A (comprehension (.SetComp el0 [⟨ta0, it0, if0, 0⟩] sp0 po0) sp0 X.env po1 (newSet (.type "set")) false (eval it0 X.env) us0) Qz X.xe u0 := by
  have hfr : ∀ yy ∈ sp0.names, yy.2 = .free → ∃ c_, X.env.cells.lookup yy.1 = some c_ := fun yy hy e_ => by
    rcases bo.free yy hy e_ with k_ | k_
    · exact V0.ok.has _ (.inl k_)
    · exact V0.ok.has _ (.inr k_)
  refine wpAny_comprehension_free (use := us0) rfl gd (closure_ok hfr) bo.kind (fun yy hy e_ => by rw [bo.uniq yy hy, e_])
    (thn (ge.run pn0 u0 τ0 G0 _ V0 hh0) fun xw u1 hx_ => thn hx_ fun itw u2 hh2 => ?_)
  obtain ⟨ix0, fps, tu, J0, G2, e_, V2, T0, tz2, fo2, q⟩ := hh2
  subst e_
  refine PpSet.newSet_ok (newEnv_comp ?_)
  generalize eD : u2.heap.objs.size = D0
  have eDn : G2 D0 = none := V2.hok.fresh (Nat.le_of_eq eD)
  obtain ⟨W, ⟨m0, ww0⟩, trn⟩ := q D0 eDn
  -- the new list
  generalize hs3 : ({ u2 with heap := u2.heap.push { cls := .type "set", dict := none, data := .set #[] 0 (.fresh 0 0 (!X.w.params.followText "set-order")) } } : Shared) = u3
  have V3 : Inv X pn0 τ0 (upd G2 D0 (SIO X.w D0 (fun _ => false) 0)) u3 := by
    rw [← hs3]
    refine V2.laid (t' := u2.toks) (fun b_ o_ e_ => Heap.get?_push_of_some _ e_) (Nat.le_of_eq eD) ?_
    rw [← eD]
    exact siO_new (setR_fresh X.w)
  have hh3 : u3.heap = u2.heap.push { cls := .type "set", dict := none, data := .set #[] 0 (.fresh 0 0 (!X.w.params.followText "set-order")) } := by rw [← hs3]
  have szz : ∀ b_ ∈ fps, b_ < u2.heap.objs.size := fun b_ hb_ => by
    obtain ⟨o_, e_, _⟩ := T0.obj _ _ tz2 b_ hb_
    exact Heap.lt_size e_
  have fo3 : ∀ b_ ∈ fps, FpOk X pn0 (upd G2 D0 (SIO X.w D0 (fun _ => false) 0)) b_ ∧ b_ < u3.heap.objs.size := fun b_ hb_ => by
    have hlt_ := szz b_ hb_
    refine ⟨⟨?_, (fo2 b_ hb_).2⟩, by rw [hh3, Heap.size_push]; exact Nat.lt_succ_of_lt hlt_⟩
    rw [upd_ne (by rw [← eD]; exact Nat.ne_of_lt hlt_)]
    exact (fo2 b_ hb_).1
  have tz3 : tu 0 u3.heap := T0.keep _ _ _ tz2 fun b_ _ o_ e_ => by rw [hh3]; exact Heap.get?_push_of_some _ e_
  have V4 := block_start V3 bo gf fo3
  have qg := ga u3 (upd G2 D0 (SIO X.w D0 (fun _ => false) 0)) u3.heap.objs.size (cellsFrom (u3.heap.objs.size + 1) sp0.names (cloFrom X.env.cells sp0.names [])) fps
  have qt := gb u3 (upd G2 D0 (SIO X.w D0 (fun _ => false) 0)) u3.heap.objs.size (cellsFrom (u3.heap.objs.size + 1) sp0.names (cloFrom X.env.cells sp0.names [])) fps
  have qe := gc u3 (upd G2 D0 (SIO X.w D0 (fun _ => false) 0)) u3.heap.objs.size (cellsFrom (u3.heap.objs.size + 1) sp0.names (cloFrom X.env.cells sp0.names [])) fps
  show codeAny _ _ (.compStart (.SetComp el0 [⟨ta0, it0, if0, 0⟩] sp0 po0) 0 (.ref ix0) (.ref D0) (compEnvC sp0 (cellsFrom (u3.heap.objs.size + 1) sp0.names (cloFrom X.env.cells sp0.names [])) u3.heap.objs.size X.env)) (compPost (model X.prog X.w) X.A X.xe us0 Qz (.ref D0) u3.heap.objs.size) { u3 with heap := pushCells (u3.heap.push { cls := .type "dict", data := .dict #[] }) sp0.names }
  have nfq : ∀ b_ ∈ fps, (upd G2 D0 (SIO X.w D0 (fun _ => false) 0)) b_ = none := fun b_ hb_ => (fo3 b_ hb_).1.1
  generalize ece : compEnvC sp0 (cellsFrom (u3.heap.objs.size + 1) sp0.names (cloFrom X.env.cells sp0.names [])) u3.heap.objs.size X.env = ev at V4 qg qt qe ⊢
  have cl0 : ev.locals = u3.heap.objs.size := by subst ece; rfl
  generalize hH3 : upd G2 D0 (SIO X.w D0 (fun _ => false) 0) = G3 at V3 V4 qg qt qe ww0 nfq fo3
  generalize hs4 : ({ u3 with heap := pushCells (u3.heap.push { cls := .type "dict", data := .dict #[] }) sp0.names } : Shared) = u4 at V4 ⊢
  have tz4 : tu 0 u4.heap := T0.keep _ _ _ tz3 fun b_ _ o_ e_ => by rw [← hs4]; exact pushCells_keeps _ _ _ _ (Heap.get?_push_of_some _ e_)
  have sta : ∀ {τ' : L2.St} {G' : Hp} {u' : Shared}, Inv (X.blk u3 G3 sp0 ev fps) [] τ' G' u' → (∀ b_ ∈ fps, G' b_ = none) → ∀ b_ ∈ fps, FpOk (X.blk u3 G3 sp0 ev fps) [] G' b_ := fun {τ' G' u'} V' hn_ b_ hb_ =>
    ⟨hn_ b_ hb_, (V'.ok.exf b_ hb_).1, V'.ok.exfs b_ hb_, .inl hb_, fun x0 c_ e_ => (V'.ok.exf b_ hb_).2 x0 c_ e_, fun p_ hp_ => absurd (show p_ ∈ ([] : List (Addr × Obj)) ++ [] from hp_) (by simp)⟩
  have lop : codeAny (model X.prog X.w) X.A (.compLoop (.SetComp el0 [⟨ta0, it0, if0, 0⟩] sp0 po0) 0 (.ref ix0) (.ref D0) ev) (compPost (model X.prog X.w) X.A X.xe us0 Qz (.ref D0) u3.heap.objs.size) u4 := by
    refine PpSet.compLoopS_any (fun n_ u' => ∃ i_ G', Inv (X.blk u3 G3 sp0 ev fps) [] (wipe τ0 (ow0.map (·.2))) G' u' ∧ tu i_ u'.heap ∧ (∀ b_ ∈ fps, G' b_ = none) ∧ W i_ n_ G') ?_ m0 ⟨0, G3, V4, tz4, nfq, ww0⟩
    rintro n_ u5 ⟨i_, G5, V5, tz5, nn5, ww5⟩
    rcases trn i_ n_ G5 ww5 with ⟨stp0, qw⟩ | ⟨gn, Ny, eNy, stp⟩
    · have td0 := T0.done (X.blk u3 G3 sp0 ev fps) rfl rfl rfl gg i_ [] u5 _ G5 (fun _ _ => False) V5 (sta V5 nn5) tz5 stp0
      refine thnF td0 fun r_ u6 ⟨hr_, V6⟩ => ?_
      subst hr_
      -- back in the def's context
      have V7 : Inv X pn0 τ0 G5 u6 := V3.call' (ch := fps) V6.os V6.base V6.hok V6.bare fun b_ hb_ => ⟨(fo3 b_ hb_).1.2.2.2.1, (fo3 b_ hb_).1.2.1, (fo3 b_ hb_).1.2.2.2.2.1, (fo3 b_ hb_).1.2.2.2.2.2⟩
      have nC_ : G5 u3.heap.objs.size = none := by
        have zz : G5 ev.locals = none := V6.free
        rw [cl0] at zz
        exact zz
      obtain ⟨m_, hn_, _⟩ := V6.loc
      have hn_ : u6.heap.Ns ev.locals m_ := hn_
      rw [cl0] at hn_
      exact hEnd D0 u3.heap.objs.size u6 m_ G5 V7 qw hn_ (V3.fpOk (Nat.le_refl _) nC_)
    · have ti0 := T0.item (X.blk u3 G3 sp0 ev fps) rfl rfl rfl gg i_ [] u5 _ G5 (fun _ _ => False) V5 (sta V5 nn5) tz5 gn
      refine thnF ti0 fun r_ u6 ⟨u_, hr_, hh6⟩ => ?_
      subst hr_
      refine thnF hh6 fun _ u7 ⟨x0, G7, V7, rr7, yy7, tz7, nn7⟩ => ?_
      have I7' := V7.pinned (sta V7 nn7) (T0.obj _ _ tz7)
      refine thnF (qg.run _ u7 _ G7 x0 u_ _ I7' rr7 (stp x0 G7 yy7)) fun _ u8 ⟨τ8, G8, V8, hww8, qq8⟩ => ?_
      refine thnF (qt.run _ u8 τ8 G8 _ V8 qq8) fun b_ u9 ⟨G9, V9, qq9⟩ => ?_
      -- the turn's end
      have fin_ : ∀ {u' : Shared} {G' : Hp}, Inv (X.blk u3 G3 sp0 ev fps) ([] ++ pinsAt fps u7.heap) τ8 G' u' → Ny G' → ∃ m_, m_ < n_ ∧ ∃ i_ G', Inv (X.blk u3 G3 sp0 ev fps) [] (wipe τ0 (ow0.map (·.2))) G' u' ∧ tu i_ u'.heap ∧ (∀ b_ ∈ fps, G' b_ = none) ∧ W i_ m_ G' := fun {u' G'} V' ny_ => by
        obtain ⟨m'', hm_, w''⟩ := eNy G' ny_
        have pin'' : ∀ b_ ∈ fps, ∀ o_, u7.heap.get? b_ = some o_ → u'.heap.get? b_ = some o_ ∧ G' b_ = none := fun b_ hb_ o_ e_ =>
          let zz := V'.pin (b_, o_) (List.mem_append_right _ (List.mem_append_right _ (mem_pinsAt hb_ e_)))
          ⟨zz.1, zz.2.1⟩
        have hl_ : (wipe τ0 (ow0.map (·.2))).length = τ8.length := by rw [← hww8, wipe_length]
        refine ⟨m'', hm_, i_ + 1, G', (V'.unpinned (pins := [])).weak hl_ (fun j v_ e_ => ?_), T0.keep _ _ _ tz7 fun b_ hb_ o_ e_ => (pin'' b_ hb_ o_ e_).1, fun b_ hb_ => ?_, w''⟩
        · rw [← hww8] at e_
          exact (wipe_some e_).1
        · obtain ⟨o_, e_, _⟩ := T0.obj _ _ tz7 b_ hb_
          exact (pin'' b_ hb_ o_ e_).2
      cases b_ with
      | false =>
        simp only [Bool.false_eq_true, if_false] at qq9 ⊢
        exact fin_ V9 qq9
      | true =>
        simp only [if_true] at qq9 ⊢
        refine thnF (qe.run _ u9 τ8 G9 _ V9 qq9) fun zz u10 ⟨yw, G10, V10, rr10, cb_, S_0, nn0, ey_, eD10, hz10_, ny_⟩ => ?_
        subst ey_
        obtain ⟨tk0, rfl⟩ := rr10
        exact addI_ok (X := X.blk u3 G3 sp0 ev fps) V10 eD10 hz10_ fun u11 V11 => fin_ V11 ny_
  exact PpSet.codeAny_compStart_set lop (T0.self X.A 0 _ _ _ tz4 lop)
theorem pe_isc {el0 ta0 it0 : Expr} {if0 : List Expr} {sp0 : Scope} {ow0 : List (PySem.Str × Nat)} {po0 : Pos} {wi0 : TI} {g0 : TG} {tt0 : TT} {te0 : TE} (gg : X.calm = true) (gf : X.N.Nodup) (ge : PI X ta0 it0 wi0) (bo : BlkOk X.N X.env.scope sp0 ow0)
    (ga : ∀ (u0 : Shared) (G0 : Hp) (C0 : Addr) (cl_ : List (PySem.Str × Addr)) (fps : List Addr), PG (X.blk u0 G0 sp0 (compEnvC sp0 cl_ C0 X.env) fps) ta0 g0) (gb : ∀ (u0 : Shared) (G0 : Hp) (C0 : Addr) (cl_ : List (PySem.Str × Addr)) (fps : List Addr), PTs (X.blk u0 G0 sp0 (compEnvC sp0 cl_ C0 X.env) fps) if0 tt0)
    (gc : ∀ (u0 : Shared) (G0 : Hp) (C0 : Addr) (cl_ : List (PySem.Str × Addr)) (fps : List Addr), PE (X.blk u0 G0 sp0 (compEnvC sp0 cl_ C0 X.env) fps) el0 te0) (gd : ∀ x0, foldedSetIterable it0 X.env x0 = pure x0 := by intro _; rfl) :
    PE X (.SetComp el0 [⟨ta0, it0, if0, 0⟩] sp0 po0) (tIsc X.w wi0 g0 tt0 te0 (ow0.map (·.2))) := by
  refine ⟨fun pn0 u0 τ0 G0 Q0 V0 hh0 => ?_⟩
  rw [PpSet.eval_SetComp]
  refine isc_core gg gf V0 ge bo ga gb gc gd hh0 fun D0 C0 u' m_ G' V' q hn_ f => ⟨m_, hn_, fun hh'' sb_ => ?_⟩
  obtain ⟨fo0, fo1, fo2, fo3, fo4, fo5⟩ := f
  exact ⟨.ref D0, G', V'.turned (t' := u'.toks) (fun b_ o_ hb_ e_ => (sb_.2 b_ hb_).trans e_) fo0 fo1 fo3 fo4 fo5, rfl, q⟩
theorem call_lenI : CallR X (.builtin "len") (fun xs H Q => ∃ a S n, xs = [.ref a] ∧ H a = some (SIO X.w a S n) ∧ n < 100000 ∧ Q (.int n) H) := by
  intro pn0 u0 τ0 G0 xs us Q0 V0 r hw
  obtain ⟨a, S, n, rfl, ha, hn, q⟩ := hw
  obtain ⟨u_, rfl, ru⟩ := vals1 r
  cases ru
  obtain ⟨o, es, ep, t, ho, hex, hd, _, _, _, _, hf, hsz, _⟩ : SetR X.w u0.heap a S n := (V0.hok a _ ha).1
  exact call_len_set ho hex hd hf (by omega) ⟨.int n, G0, V0.tok _, ⟨_, by rw [hsz]⟩, q⟩
end
end K32

namespace K32
open PySem PySem.Spec PyProof.Rows L2
/-! ### comparisons: with the empty list, of flat tuples, of lists of texts -/
section
variable {X : Cx}
theorem sq_size {its : List Value} {xs : List V} (r : Vals xs its) : its.toArray.size = xs.length := by
  rw [List.size_toArray, ← r.length]
/-- xs == [] -/
def rNil (K : PySem.W.Frag) (neg : Bool) : R2 := fun x y H Q => ∃ p q xs, x = .ref p ∧ y = .ref q ∧ SqL K H p xs ∧ H q = some (.lst []) ∧ Q (.bl (if neg then !xs.isEmpty else xs.isEmpty)) H
theorem op_eqNil (hu : X.A.units + 64 < cLine) : OpR X (compareOp .Eq) (rNil X.K false) := by
  intro pins s σ H x y v u Q I rx ry h
  obtain ⟨p, q, xs, rfl, rfl, hp, hq, k⟩ := h
  obtain rfl : v = Value.ref p := rx
  obtain rfl : u = Value.ref q := ry
  obtain ⟨i1, r1, p1, _⟩ := I.list hp
  obtain ⟨i2, r2, p2, _⟩ := I.list (SqL.of hq)
  have z2 : i2.toArray.size = 0 := sq_size r2
  have z1 := sq_size r1
  have lt : X.A.units < cLine := by omega
  cases xs with
  | nil => exact SeqAt.eq_listAt (e := fun _ => true) p1.isList p2.isList (by rw [z1, z2]; rfl) lt (fun j h1 h2 => absurd h2 (by omega)) ⟨.bl true, H, I, by rw [z1]; rfl, k⟩
  | cons a r => exact SeqAt.eq_list_lengthsAt p1.isList p2.isList (by rw [z1, z2]; rfl) lt ⟨.bl false, H, I, rfl, k⟩
theorem op_neNil (hu : X.A.units + 64 < cLine) : OpR X (compareOp .NotEq) (rNil X.K true) := by
  intro pins s σ H x y v u Q I rx ry h
  obtain ⟨p, q, xs, rfl, rfl, hp, hq, k⟩ := h
  obtain rfl : v = Value.ref p := rx
  obtain rfl : u = Value.ref q := ry
  obtain ⟨i1, r1, p1, _⟩ := I.list hp
  obtain ⟨i2, r2, p2, _⟩ := I.list (SqL.of hq)
  have z2 : i2.toArray.size = 0 := sq_size r2
  have z1 := sq_size r1
  have lt : X.A.units < cLine := by omega
  cases xs with
  | nil => exact SeqAt.RcNeAt.lists (e := fun _ => true) p1.isList p2.isList (by rw [z1, z2]; rfl) lt (fun j h1 h2 => absurd h2 (by omega)) X.prog X.w X.xe _ ⟨.bl false, H, I, by rw [z1]; rfl, k⟩
  | cons a r => exact SeqAt.RcNeAt.lists_lengths p1.isList p2.isList (by rw [z1, z2]; rfl) lt X.prog X.w X.xe _ ⟨.bl true, H, I, rfl, k⟩
/-- lists of texts -/
def eqSS (xs ys : List Str) : Bool := decide (xs = ys)
theorem strs_all {its1 its2 : List Value} : ∀ {xs ys : List Str}, Vals (xs.map V.str) its1 → Vals (ys.map V.str) its2 → xs.length = ys.length →
    ∃ e : Nat → Bool, (∀ A s j (h1 : j < its1.toArray.size) (h2 : j < its2.toArray.size), SeqAt.EqAt A s its1.toArray[j] its2.toArray[j] (e j)) ∧ (List.range its1.toArray.size).all e = eqSS xs ys := by
  induction its1 generalizing its2 with
  | nil =>
    intro xs ys r1 r2 hl
    cases xs with
    | cons _ _ => cases r1
    | nil =>
      cases ys with
      | cons _ _ => cases hl
      | nil => exact ⟨fun _ => true, fun A s j h1 h2 => absurd h1 (Nat.not_lt_zero _), rfl⟩
  | cons u its1 ih =>
    intro xs ys r1 r2 hl
    cases xs with
    | nil => cases r1
    | cons a xs =>
      cases ys with
      | nil => cases hl
      | cons b ys =>
        cases r1 with
        | cons q1 r1 =>
          cases r2 with
          | cons q2 r2 =>
            obtain ⟨t1, rfl⟩ := q1
            obtain ⟨t2, rfl⟩ := q2
            obtain ⟨e, h1, h2⟩ := ih r1 r2 (by simpa using hl)
            refine ⟨fun j => match j with | 0 => a == b | j + 1 => e j, fun A s j k1 k2 => ?_, ?_⟩
            · cases j with
              | zero => exact SeqAt.EqAt.str_str a t1 b t2
              | succ j => exact h1 A s j (by simpa using k1) (by simpa using k2)
            · have e1 : (Value.str a t1 :: its1).toArray.size = its1.toArray.size + 1 := by simp
              rw [e1, List.range_succ_eq_map, List.all_cons, List.all_map]
              have e2 : (List.range its1.toArray.size).all ((fun j => match j with | 0 => a == b | j + 1 => e j) ∘ Nat.succ) = (List.range its1.toArray.size).all e := rfl
              rw [e2, h2]
              unfold eqSS
              by_cases h : a = b <;> by_cases h' : xs = ys <;> simp [h, h']
def rStrs (K : PySem.W.Frag) (neg : Bool) : R2 := fun x y H Q => ∃ p q xs ys, x = .ref p ∧ y = .ref q ∧ SqL K H p (xs.map V.str) ∧ SqL K H q (ys.map V.str) ∧ Q (.bl (if neg then !eqSS xs ys else eqSS xs ys)) H
theorem op_neStrs (hu : X.A.units + 64 < cLine) : OpR X (compareOp .NotEq) (rStrs X.K true) := by
  intro pins s σ H x y v u Q I rx ry h
  obtain ⟨p, q, xs, ys, rfl, rfl, hp, hq, k⟩ := h
  obtain rfl : v = Value.ref p := rx
  obtain rfl : u = Value.ref q := ry
  obtain ⟨i1, r1, p1, _⟩ := I.list hp
  obtain ⟨i2, r2, p2, _⟩ := I.list hq
  have z1 := sq_size r1
  have z2 := sq_size r2
  rw [List.length_map] at z1 z2
  have lt : X.A.units < cLine := by omega
  by_cases hl : xs.length = ys.length
  · obtain ⟨e, he, ha⟩ := strs_all r1 r2 hl
    refine SeqAt.RcNeAt.lists (e := e) p1.isList p2.isList (by rw [z1, z2, hl]) lt (fun j h1 h2 => he _ _ j h1 h2) X.prog X.w X.xe _ ⟨.bl _, H, I, rfl, ?_⟩
    rw [ha]
    exact k
  · have hne : eqSS xs ys = false := decide_eq_false fun z => hl (by rw [z])
    refine SeqAt.RcNeAt.lists_lengths p1.isList p2.isList (by rw [z1, z2]; simpa using hl) lt X.prog X.w X.xe _ ⟨.bl true, H, I, rfl, ?_⟩
    rw [hne] at k
    exact k
end
/-! ### sets of numbers, told by what the items stand for -/
def addN (p : (Int → Bool) × Nat) (c : Int) : (Int → Bool) × Nat := (fun j => p.1 j || decide (j = c), if p.1 c = true then p.2 else p.2 + 1)
def setN (l : List Int) : (Int → Bool) × Nat := l.foldl addN (fun _ => false, 0)
theorem setN_snoc (l : List Int) (c : Int) : setN (l ++ [c]) = addN (setN l) c := by
  unfold setN
  rw [List.foldl_append]
  rfl
theorem fold_le : ∀ (l : List Int) (p : (Int → Bool) × Nat), (l.foldl addN p).2 ≤ p.2 + l.length
  | [], p => Nat.le_refl _
  | c :: r, p => by
    have := fold_le r (addN p c)
    have h2 : (addN p c).2 ≤ p.2 + 1 := by
      unfold addN
      show (if p.1 c = true then p.2 else p.2 + 1) ≤ _
      split <;> omega
    show (r.foldl addN (addN p c)).2 ≤ p.2 + (r.length + 1)
    omega
theorem setN_le (l : List Int) : (setN l).2 ≤ l.length := by
  have := fold_le l (fun _ => false, 0)
  unfold setN
  simpa using this
theorem set_rel {δ : Type} {w : World} {J : It} {xs : List V} {ds : List δ} {Rel : V → δ → Prop} {G : Hp → Prop} {g : TG} {te : TE} {vs : List Nat} {σ : St} {H1 : Hp} {D : Addr} {Qd : Hp → Prop} (hD : H1 D = none) (wk : Walk J xs.length G (YAt xs))
    (hG : ∀ H', Ex H1 H' → G H') (hz : xs.length < 4090) (hp : Paired Rel xs ds) (σd : δ → St) (el : δ → Int)
    (hg : ∀ x d H', Rel x d → d ∈ ds → Ex H1 H' → ∀ R : St → Hp → Prop, R (σd d) H' → g x (wipe σ vs) H' R) (hw : ∀ d, d ∈ ds → wipe (σd d) vs = wipe σ vs)
    (he : ∀ d H', d ∈ ds → Ex H1 H' → ∀ R : VK, (∀ H2, Ex H' H2 → R (.int (el d)) H2) → te (σd d) H' R)
    (k : ∀ H', Ex H1 H' → H' D = some (SIO w D (setN (ds.map el)).1 (setN (ds.map el)).2) → Qd H') :
    ∃ W : Nat → Nat → Hp → Prop, (∃ m, W 0 m (upd H1 D (SIO w D (fun _ => false) 0))) ∧ ∀ i m H, W i m H →
      (J.stop i H ∧ Qd H) ∨ (J.go i H ∧ ∃ Ny : Hp → Prop, (∀ H', Ny H' → ∃ m', m' < m ∧ W (i + 1) m' H') ∧ ∀ x H', J.yld i H x H' → g x (wipe σ vs) H' fun σ2 H2 => wipe σ2 vs = wipe σ vs ∧ tYes σ2 H2 fun b H3 =>
        if b = true then te σ2 H3 fun y H4 => ∃ (c : Int) (S : Int → Bool) (n : Nat), y = .int c ∧ H4 D = some (SIO w D S n) ∧ n + 1 < scanBound ∧ Ny (upd H4 D (SIO w D (fun j => S j || decide (j = c)) (if S c = true then n else n + 1))) else Ny H3) := by
  have hl : xs.length = ds.length := hp.length
  let Pv : Nat → Hp → Prop := fun i H => Ex H1 H ∧ H D = some (SIO w D (setN ((ds.take i).map el)).1 (setN ((ds.take i).map el)).2)
  refine ⟨fun i m H => m = xs.length - i ∧ i ≤ xs.length ∧ Pv i H, ⟨xs.length, by simp, Nat.zero_le _, Ex.new hD, upd_same⟩, ?_⟩
  rintro i m H ⟨rfl, hi, p1, p2⟩
  by_cases hlt : i < xs.length
  · refine .inr ⟨wk.goes i H hlt (hG H p1), Pv (i + 1), fun H' p' => ⟨xs.length - (i + 1), by omega, rfl, hlt, p'⟩, fun x H' y => ?_⟩
    obtain ⟨e, hx⟩ := wk.yields i H x H' hlt (hG H p1) y
    have e2 : H' = H := e
    subst e2
    obtain ⟨d, hd, r⟩ := Paired.at hp hx
    have hm : d ∈ ds := List.mem_of_getElem? hd
    have ft : (ds.take (i + 1)).map el = (ds.take i).map el ++ [el d] := by
      rw [List.take_succ, hd, List.map_append]
      rfl
    refine hg x d _ r hm p1 _ ⟨hw d hm, ?_⟩
    show if true = true then te (σd d) H' (fun y H4 => ∃ c S n, y = V.int c ∧ H4 D = some (SIO w D S n) ∧ n + 1 < scanBound ∧ Pv (i + 1) (upd H4 D (SIO w D (fun j => S j || decide (j = c)) (if S c = true then n else n + 1)))) else Pv (i + 1) H'
    refine iteT ?_
    refine he d _ hm p1 _ fun H3 e3 => ⟨el d, _, _, rfl, e3 _ _ p2, ?_, (p1.tr e3).mut hD, ?_⟩
    · have := setN_le ((ds.take i).map el)
      rw [List.length_map, List.length_take] at this
      have h3 : scanBound = 4096 := rfl
      omega
    · rw [ft, setN_snoc]
      exact upd_same
  · have e : i = xs.length := by omega
    subst e
    rw [hl, List.take_length] at p2
    exact .inl ⟨wk.stops H (hG H p1), k H p1 p2⟩
end K32

namespace K32
open PySem PySem.Spec PyProof.Rows L2
section
variable {P : Program} {w : World} {K : PySem.W.Frag} {mg : Str → Option Value} {base : Heap} {A : Adr}
/-! ### is_integer, is_octet -/
def sp_is_integer : Sp := fun vs H Q _ => ∃ i : Int, vs = [.int i] ∧ Q (.bl true) H
abbrev N_is_integer : List Str := ["thing"]
theorem sc_is_integer : FnScope N_is_integer ["thing"] (defScope s_is_integer) := ⟨rfl, rfl, rfl, by decide +kernel, rfl, by decide +kernel, by decide +kernel⟩
theorem h_is_integer (T : Txt K w mg A) : Has CX0 P w K mg base "is_integer" 1 ["thing"] sp_is_integer := by
  refine has0 (k := 0) T.d_is_integer sc_is_integer (fun _ _ _ _ _ _ us hl => match us, hl with | [_], _ => rfl) (fun vs H Q E h => ?_) (fun f cdv A outer s H vs Q E hr h => ?_)
  · obtain ⟨i, rfl, _⟩ := h
    rfl
  · obtain ⟨i, rfl, k⟩ := h
    refine ⟨_, (pss_one (ps_ret (pe_and (pe_callB call_isi (by rfl) T.b_isinstance (by decide +kernel) (pa_cons (pv 0) (pa_cons (pe_bltn (v := .ty "int") rfl T.b_int (by decide +kernel) rfl) pa_nil))) (pe_one (pe_not (pe_callB call_isi (by rfl) T.b_isinstance (by decide +kernel) (pa_cons (pv 0) (pa_cons (pe_bltn (v := .ty "bool") rfl T.b_bool (by decide +kernel) rfl) pa_nil)))))))), ?_⟩
    refine ⟨_, rfl, _, _, _, _, true, rfl, .ty _, .base (.int i), kit_ty (by decide +kernel), true, rfl, ?_⟩
    refine iteT ?_
    refine ⟨_, rfl, _, _, _, _, false, rfl, .ty _, .base (.int i), kit_ty (by decide +kernel), false, rfl, k⟩
def sp_is_octet : Sp := fun vs H Q _ => ∃ i : Int, vs = [.int i] ∧ 0 ≤ i ∧ i ≤ 255 ∧ Q (.bl true) H
abbrev N_is_octet : List Str := ["thing"]
theorem sc_is_octet : FnScope N_is_octet ["thing"] (defScope s_is_octet) := ⟨rfl, rfl, rfl, by decide +kernel, rfl, by decide +kernel, by decide +kernel⟩
theorem h_is_octet (T : Txt K w mg A) : Has CX0 P w K mg base "is_octet" 2 ["thing"] sp_is_octet := by
  refine has0 (k := 1) T.d_is_octet sc_is_octet (fun _ _ _ _ _ _ us hl => match us, hl with | [_], _ => rfl) (fun vs H Q E h => ?_) (fun f cdv A outer s H vs Q E hr h => ?_)
  · obtain ⟨i, rfl, _⟩ := h
    rfl
  · obtain ⟨i, rfl, h0, h1, k⟩ := h
    refine ⟨_, (pss_one (ps_ret (pe_and (pe_fn (h_is_integer T) (hr.mono (by decide)) paN (pa_cons (pv 0) pa_nil)) (pe_one (pe_chain op_le op_le pe_int (pv 0) pe_int))))), ?_⟩
    refine ⟨_, rfl, i, rfl, true, rfl, iteT ?_⟩
    refine ⟨_, rfl, _, _, rfl, rfl, true, ?_, iteT ?_⟩
    · exact congrArg V.bl (decide_eq_true h0)
    · refine ⟨_, _, rfl, rfl, ?_⟩
      show Q (V.bl (decide (i ≤ 255))) H
      rw [decide_eq_true h1]
      exact k
/-! ### is_data: a list of octets, not too long -/
def sp_is_data : Sp := fun vs H Q _ => ∃ (a : Addr) (os : List Int), vs = [.ref a] ∧ H a = some (.lst (os.map V.int)) ∧ os.length ≤ 4000 ∧ (∀ o ∈ os, 0 ≤ o ∧ o ≤ 255) ∧ ∀ H', Ex H H' → Q (.bl true) H'
abbrev N_is_data : List Str := ["thing", "octet"]
theorem sc_is_data : FnScope N_is_data ["thing"] (defScope s_is_data) := ⟨rfl, rfl, rfl, by decide +kernel, rfl, by decide +kernel, by decide +kernel⟩
theorem h_is_data (T : Txt K w mg A) : Has CX0 P w K mg base "is_data" 3 ["thing"] sp_is_data := by
  refine has0 (k := 2) T.d_is_data sc_is_data (fun _ _ _ _ _ _ us hl => match us, hl with | [_], _ => rfl) (fun vs H Q E h => ?_) (fun f cdv A outer s H vs Q E hr h => ?_)
  · obtain ⟨a, os, rfl, _⟩ := h
    rfl
  · obtain ⟨a, os, rfl, ha, hl, ho, k⟩ := h
    refine ⟨_, ((pss_one (ps_ret (pe_and (pe_callB call_isi (by rfl) T.b_isinstance (by decide +kernel) (pa_cons (pv 0) (pa_cons (pe_bltn (v := .ty "list") rfl T.b_list (by decide +kernel) rfl) pa_nil))) (pe_and (pe_cmpR op_le (pe_callB call_len_seq (by rfl) T.b_len PySem.boot_len (pa_cons (pv 0) pa_nil)) (C8.pe_gc rfl T.c_MOST_OCTETS) (nomark _)) (pe_one (pe_callB (cr_all rfl) (by rfl) T.b_all (by decide +kernel) (pa_cons (pe_lc (own := [("octet", 1)]) (g := gName 1) (tt := tYes) rfl sc_is_data.nd (pi_list (pv 0)) (blkOk_by (N := N_is_data) (sc := defScope s_is_data) (by decide +kernel)) (fun _ _ _ _ _ => pg_name (i := 1) sc_is_data.nd rfl (Or.inl rfl)) (fun _ _ _ _ _ => pts_nil) (fun _ _ _ _ _ => (pe_fn (h_is_octet T) (hr.mono (by decide)) paN (pa_cons (pv 1) pa_nil)))) pa_nil)))))))), ?_⟩
    refine ⟨_, rfl, _, _, _, _, true, rfl, .ty _, .base (.lst ha), kit_ty (by decide +kernel), true, rfl, iteT ?_⟩
    refine ⟨_, rfl, a, _, rfl, .inl (SqL.of ha), _, _, rfl, rfl, true, ?_, iteT ?_⟩
    · refine congrArg V.bl (decide_eq_true ?_)
      rw [List.length_map]
      omega
    · refine ⟨_, rfl, a, rfl, ⟨_, SqL.of ha⟩, ?_⟩
      intro D hD
      refine comp_gen hD (G := fun H => SqL K H a (os.map V.int)) walk_list (fun H' e => SqL.of (e _ _ ha)) (by rw [List.length_map]; omega) (fun x => [some (.ref a), some x]) (fun _ => true) (fun _ => .bl true)
        (fun x H' _ _ R q => ?_) (fun x _ => ?_) (fun x H' _ _ R q => ?_) (fun x H' hx _ _ R q => ?_) (fun H' e hd => ?_)
      · exact q
      · rfl
      · exact q H' (Ex.rfl' _)
      · obtain ⟨o, hm, rfl⟩ := List.mem_map.mp hx
        exact ⟨_, rfl, o, rfl, (ho o hm).1, (ho o hm).2, q H' (Ex.rfl' _)⟩
      · refine ⟨D, os.map fun _ => true, rfl, SqL.of ?_, ?_⟩
        · rw [hd, filter_true, List.map_map, List.map_map]
          rfl
        · have e1 : ((os.map fun _ => true).all id) = true := by simp
          rw [e1]
          exact k H' e
/-! ### is_line_octet, shown, line_text -/
def sp_is_line_octet : Sp := fun vs H Q _ => ∃ i : Int, vs = [.int i] ∧ Q (.bl (octB i)) H
abbrev N_is_line_octet : List Str := ["octet"]
theorem sc_is_line_octet : FnScope N_is_line_octet ["octet"] (defScope s_is_line_octet) := ⟨rfl, rfl, rfl, by decide +kernel, rfl, by decide +kernel, by decide +kernel⟩
theorem h_is_line_octet (T : Txt K w mg A) : Has CX0 P w K mg base "is_line_octet" 1 ["octet"] sp_is_line_octet := by
  refine has0 (k := 0) T.d_is_line_octet sc_is_line_octet (fun _ _ _ _ _ _ us hl => match us, hl with | [_], _ => rfl) (fun vs H Q E h => ?_) (fun f cdv A outer s H vs Q E hr h => ?_)
  · obtain ⟨i, rfl, _⟩ := h
    rfl
  · obtain ⟨i, rfl, k⟩ := h
    refine ⟨_, ((pss_one (ps_ret (pe_or (pe_cmpR op_eq (pv 0) (C8.pe_gc rfl T.c_TAB) (nomark _)) (pe_one (pe_and (pe_chain op_le op_le (C8.pe_gc rfl T.c_FIRST) (pv 0) (C8.pe_gc rfl T.c_LAST)) (pe_one (pe_cmpR op_ne (pv 0) (C8.pe_gc rfl T.c_PERCENT) (nomark _))))))))), ?_⟩
    refine ⟨_, rfl, rfl, _, rfl, ?_⟩
    refine ite2 (fun h9 => ?_) (fun h9 => ?_)
    · have e : i = 9 := V.int.inj (of_decide_eq_true h9)
      have e1 : octB i = true := by rw [e]; rfl
      rw [e1] at k
      exact k
    · have h9' : ¬ i = 9 := fun q => h9 (decide_eq_true (congrArg V.int q))
      refine ⟨_, rfl, _, _, rfl, rfl, _, rfl, ?_⟩
      have fin : octB i = (decide (32 ≤ i) && decide (i ≤ 126) && !decide (i = 37)) := by
        unfold octB
        rw [decide_eq_false h9', Bool.false_or]
      by_cases h1 : 32 ≤ i
      · rw [decide_eq_true h1]
        refine iteT ⟨_, _, rfl, rfl, _, rfl, ?_⟩
        by_cases h2 : i ≤ 126
        · rw [decide_eq_true h2]
          refine iteT ⟨_, rfl, rfl, ?_⟩
          have e3 : decide (V.int i = V.int 37) = decide (i = 37) := by simp
          rw [e3]
          rw [fin, decide_eq_true h1, decide_eq_true h2] at k
          exact k
        · rw [decide_eq_false h2]
          refine iteF ?_
          rw [fin, decide_eq_true h1, decide_eq_false h2] at k
          exact k
      · rw [decide_eq_false h1]
        refine iteF ⟨_, rfl, iteF ?_⟩
        rw [fin, decide_eq_false h1] at k
        exact k
def sp_shown : Sp := fun vs H Q _ => ∃ i : Int, vs = [.int i] ∧ octB i = true ∧ Q (.str ⟨#[chN i]⟩) H
abbrev N_shown : List Str := ["octet"]
theorem sc_shown : FnScope N_shown ["octet"] (defScope s_shown) := ⟨rfl, rfl, rfl, by decide +kernel, rfl, by decide +kernel, by decide +kernel⟩
theorem h_shown (T : Txt K w mg A) : Has CX0 P w K mg base "shown" 1 ["octet"] sp_shown := by
  refine has0 (k := 0) T.d_shown sc_shown (fun _ _ _ _ _ _ us hl => match us, hl with | [_], _ => rfl) (fun vs H Q E h => ?_) (fun f cdv A outer s H vs Q E hr h => ?_)
  · obtain ⟨i, rfl, _⟩ := h
    rfl
  · obtain ⟨i, rfl, hi, k⟩ := h
    refine ⟨_, ((pss_cons (ps_if (pt_cmpR op_eq (pv 0) (C8.pe_gc rfl T.c_TAB) (nomark _)) (pss_one (ps_ret pe_str)) pss_nil)
      (pss_one (ps_ret (pe_ix ix_str (C8.pe_gc rfl T.c_CHARACTERS) (pe_op op_sub (pe_op op_sub (pv 0) (C8.pe_gc rfl T.c_FIRST)) (pe_callTy call_int1 (by rfl) T.b_int (by decide +kernel) (pa_cons (pe_cmpR op_gt (pv 0) (C8.pe_gc rfl T.c_PERCENT) (nomark _)) pa_nil))) (fun _ _ => rfl)))))), ?_⟩
    refine ⟨_, rfl, rfl, _, rfl, ?_⟩
    refine ite2 (fun h9 => ?_) (fun h9 => ?_)
    · have e : i = 9 := V.int.inj (of_decide_eq_true h9)
      subst e
      exact k
    · have h9' : ¬ i = 9 := fun q => h9 (decide_eq_true (congrArg V.int q))
      refine ⟨_, rfl, _, _, rfl, rfl, _, rfl, _, _, rfl, rfl, .inr ⟨_, rfl, _, _, rfl, rfl, _, _, _, rfl, rfl, (by decide +kernel), chars_atI hi h9', k⟩⟩
def sp_line_text : Sp := fun vs H Q _ => ∃ (a : Addr) (os : List Int), vs = [.ref a] ∧ H a = some (.lst (os.map V.int)) ∧ os.length ≤ 300 ∧ (∀ o ∈ os, octB o = true) ∧ ∀ H', Ex H H' → Q (.str (lineS os)) H'
abbrev N_line_text : List Str := ["line", "octet"]
theorem sc_line_text : FnScope N_line_text ["line"] (defScope s_line_text) := ⟨rfl, rfl, rfl, by decide +kernel, rfl, by decide +kernel, by decide +kernel⟩
theorem h_line_text (T : Txt K w mg A) : Has CX0 P w K mg base "line_text" 2 ["line"] sp_line_text := by
  refine has0 (k := 1) T.d_line_text sc_line_text (fun _ _ _ _ _ _ us hl => match us, hl with | [_], _ => rfl) (fun vs H Q E h => ?_) (fun f cdv A outer s H vs Q E hr h => ?_)
  · obtain ⟨a, os, rfl, _⟩ := h
    rfl
  · obtain ⟨a, os, rfl, ha, hl, ho, k⟩ := h
    refine ⟨_, ((pss_one (ps_ret (pe_join pe_str (pe_lc (own := [("octet", 1)]) (g := gName 1) (tt := tYes) rfl sc_line_text.nd (pi_list (pv 0)) (blkOk_by (N := N_line_text) (sc := defScope s_line_text) (by decide +kernel)) (fun _ _ _ _ _ => pg_name (i := 1) sc_line_text.nd rfl (Or.inl rfl)) (fun _ _ _ _ _ => pts_nil) (fun _ _ _ _ _ => (pe_fn (h_shown T) (hr.mono (by decide)) paN (pa_cons (pv 1) pa_nil)))))))), ?_⟩
    refine ⟨⟨_, rfl⟩, _, rfl, a, rfl, ⟨_, SqL.of ha⟩, ?_⟩
    intro D hD
    refine comp_gen hD (G := fun H => SqL K H a (os.map V.int)) walk_list (fun H' e => SqL.of (e _ _ ha)) (by rw [List.length_map]; omega) (fun x => [some (.ref a), some x]) (fun _ => true)
      (fun x => match x with | .int i => .str ⟨#[chN i]⟩ | _ => .non)
      (fun x H' _ _ R q => ?_) (fun x _ => ?_) (fun x H' _ _ R q => ?_) (fun x H' hx _ _ R q => ?_) (fun H' e hd => ?_)
    · exact q
    · rfl
    · exact q H' (Ex.rfl' _)
    · obtain ⟨o, hm, rfl⟩ := List.mem_map.mp hx
      exact ⟨_, rfl, o, rfl, ho o hm, q H' (Ex.rfl' _)⟩
    · refine ⟨"", D, (os.map chN).map fun c => (⟨#[c]⟩ : Str), rfl, rfl, .inl (SqL.of ?_), ?_, ?_⟩
      · rw [hd, filter_true, List.map_map, List.map_map, List.map_map]
        rfl
      · rw [sum_ones, List.length_map, List.length_map]
        have e0 : ("" : Str).length = 0 := by decide +kernel
        rw [e0]
        omega
      · rw [join_signs]
        exact k H' e
end
end K32

namespace K32
open PySem PySem.Spec PyProof.Rows L2
/-! ### a rule book on the heap -/
structure Bk where
  (both lengths old : Str)
  keep : Bool
  (line fields digits : Int)
def bfs (b : Bk) : List (Str × V) := [("both", .str b.both), ("lengths", .str b.lengths), ("old_chunked", .str b.old), ("keep_old", .bl b.keep), ("most_line", .int b.line), ("most_fields", .int b.fields), ("most_digits", .int b.digits)]
def BookAt (A : Adr) (H : Hp) (p : Addr) (b : Bk) : Prop := ∃ dx, H p = some (.ins A.BK dx (bfs b))
theorem bfs_both (b : Bk) : (bfs b).lookup ("both" : Str) = some (.str b.both) := by
  simp [bfs, List.lookup]
theorem bfs_lengths (b : Bk) : (bfs b).lookup ("lengths" : Str) = some (.str b.lengths) := by
  have h0 : (("lengths" : Str) == "both") = false := by decide +kernel
  simp [bfs, List.lookup, h0]
theorem bfs_old_chunked (b : Bk) : (bfs b).lookup ("old_chunked" : Str) = some (.str b.old) := by
  have h0 : (("old_chunked" : Str) == "both") = false := by decide +kernel
  have h1 : (("old_chunked" : Str) == "lengths") = false := by decide +kernel
  simp [bfs, List.lookup, h0, h1]
theorem bfs_keep_old (b : Bk) : (bfs b).lookup ("keep_old" : Str) = some (.bl b.keep) := by
  have h0 : (("keep_old" : Str) == "both") = false := by decide +kernel
  have h1 : (("keep_old" : Str) == "lengths") = false := by decide +kernel
  have h2 : (("keep_old" : Str) == "old_chunked") = false := by decide +kernel
  simp [bfs, List.lookup, h0, h1, h2]
theorem bfs_most_line (b : Bk) : (bfs b).lookup ("most_line" : Str) = some (.int b.line) := by
  have h0 : (("most_line" : Str) == "both") = false := by decide +kernel
  have h1 : (("most_line" : Str) == "lengths") = false := by decide +kernel
  have h2 : (("most_line" : Str) == "old_chunked") = false := by decide +kernel
  have h3 : (("most_line" : Str) == "keep_old") = false := by decide +kernel
  simp [bfs, List.lookup, h0, h1, h2, h3]
theorem bfs_most_fields (b : Bk) : (bfs b).lookup ("most_fields" : Str) = some (.int b.fields) := by
  have h0 : (("most_fields" : Str) == "both") = false := by decide +kernel
  have h1 : (("most_fields" : Str) == "lengths") = false := by decide +kernel
  have h2 : (("most_fields" : Str) == "old_chunked") = false := by decide +kernel
  have h3 : (("most_fields" : Str) == "keep_old") = false := by decide +kernel
  have h4 : (("most_fields" : Str) == "most_line") = false := by decide +kernel
  simp [bfs, List.lookup, h0, h1, h2, h3, h4]
theorem bfs_most_digits (b : Bk) : (bfs b).lookup ("most_digits" : Str) = some (.int b.digits) := by
  have h0 : (("most_digits" : Str) == "both") = false := by decide +kernel
  have h1 : (("most_digits" : Str) == "lengths") = false := by decide +kernel
  have h2 : (("most_digits" : Str) == "old_chunked") = false := by decide +kernel
  have h3 : (("most_digits" : Str) == "keep_old") = false := by decide +kernel
  have h4 : (("most_digits" : Str) == "most_line") = false := by decide +kernel
  have h5 : (("most_digits" : Str) == "most_fields") = false := by decide +kernel
  simp [bfs, List.lookup, h0, h1, h2, h3, h4, h5]

theorem dec_vs (a b : Str) : decide (V.str a = V.str b) = decide (a = b) := by simp
theorem dec_vi (a b : Int) : decide (V.int a = V.int b) = decide (a = b) := by simp
theorem dec_vb (a b : Bool) : decide (V.bl a = V.bl b) = decide (a = b) := by simp
section
variable {P : Program} {w : World} {K : PySem.W.Frag} {mg : Str → Option Value} {base : Heap} {A : Adr}
/-! ### code_of -/
def sp_code_of : Sp := fun vs H Q _ => ∃ c : Nat, vs = [.str ⟨#[c]⟩] ∧ okC c = true ∧ Q (.int c) H
abbrev N_code_of : List Str := ["character", "at"]
theorem sc_code_of : FnScope N_code_of ["character"] (defScope s_code_of) := ⟨rfl, rfl, rfl, by decide +kernel, rfl, by decide +kernel, by decide +kernel⟩
theorem h_code_of (T : Txt K w mg A) : Has CX0 P w K mg base "code_of" 1 ["character"] sp_code_of := by
  refine has0 (k := 0) T.d_code_of sc_code_of (fun _ _ _ _ _ _ us hl => match us, hl with | [_], _ => rfl) (fun vs H Q E h => ?_) (fun f cdv A outer s H vs Q E hr h => ?_)
  · obtain ⟨c, rfl, _⟩ := h
    rfl
  · obtain ⟨c, rfl, hc, k⟩ := h
    refine ⟨_, ((pss_cons (ps_set (i := 1) sc_code_of.nd rfl (.inl rfl) (pe_m1 F.slot_str_find F.type_str_find mt_find (C8.pe_gc rfl T.c_CHARACTERS) (pv 0)))
      (pss_one (ps_ret (pe_op op_add (pe_op op_add (C8.pe_gc rfl T.c_FIRST) (pv 1)) (pe_callTy call_int1 (by rfl) T.b_int (by decide +kernel) (pa_cons (pe_cmpR op_ge (pe_op op_add (C8.pe_gc rfl T.c_FIRST) (pv 1)) (C8.pe_gc rfl T.c_PERCENT) (nomark _)) pa_nil))))))), ?_⟩
    refine ⟨⟨_, rfl⟩, _, rfl, _, _, rfl, rfl, ?_⟩
    refine ⟨_, rfl, _, _, rfl, rfl, _, rfl, _, _, rfl, rfl, _, _, rfl, rfl, Or.inr ⟨_, rfl, _, _, rfl, rfl, ?_⟩⟩
    have e := code_at c (okC_lt hc) hc
    rw [← e] at k
    exact k
/-! ### octets -/
/-- a text of such characters and line feeds -/
def okT (z : Str) : Prop := ∀ c ∈ z.cps.toList, okC c = true ∨ c = 10
def sp_octets : Sp := fun vs H Q _ => ∃ z : Str, vs = [.str z] ∧ okT z ∧ z.length ≤ 20000 ∧
  ∀ p H' (os : List Int), H p = none → Ex H H' → H' p = some (.lst (os.map V.int)) → os.length ≤ 2 * z.length → (∀ o ∈ os, 0 ≤ o ∧ o ≤ 255) → Q (.ref p) H'
abbrev N_octets : List Str := ["text", "found", "at", "character"]
theorem sc_octets : FnScope N_octets ["text"] (defScope s_octets) := ⟨rfl, rfl, rfl, by decide +kernel, rfl, by decide +kernel, by decide +kernel⟩
theorem h_octets (T : Txt K w mg A) : Has CX0 P w K mg base "octets" 2 ["text"] sp_octets := by
  refine has0 (k := 1) T.d_octets sc_octets (fun _ _ _ _ _ _ us hl => match us, hl with | [_], _ => rfl) (fun vs H Q E h => ?_) (fun f cdv A outer s H vs Q E hr h => ?_)
  · obtain ⟨z, rfl, _⟩ := h
    rfl
  · obtain ⟨z, rfl, hz, hl, k⟩ := h
    refine ⟨_, ((pss_cons (ps_if (pt_not (pt_val (pe_callB call_isi (by rfl) T.b_isinstance (by decide +kernel) (pa_cons (pv 0) (pa_cons (pe_bltn (v := .ty "str") rfl T.b_str (by decide +kernel) rfl) pa_nil))))) (pss_one ps_never) pss_nil)
      (pss_cons (ps_set (i := 1) sc_octets.nd rfl (.inl rfl) (pe_lst pa_nil))
      (pss_cons (ps_for PassesOwn.never rfl (pi_enumS (by rfl) T.b_enumerate (pa_cons (pv 0) pa_nil)) (pg_tup (by rfl) (pgs_cons (pg_name (i := 2) sc_octets.nd rfl (.inl rfl)) (pgs_cons (pg_name (i := 3) sc_octets.nd rfl (.inl rfl)) pgs_nil)))
      (pss_one (ps_if (pt_cmpR op_eq (pv 3) pe_str (nomark _)) (pss_one (ps_aug (i := 1) sc_octets.nd rfl (.inl rfl) (pe_lst (pa_cons (C8.pe_gc rfl T.c_RETURN_octets) (pa_cons (C8.pe_gc rfl T.c_FEED_octets) pa_nil))) iop_ext)) (pss_one (ps_if (pt_cmpR op_in_sign (pv 3) (C8.pe_gc rfl T.c_CHARACTERS) (by rfl)) (pss_one (ps_expr (pe_bm PySem.F.plainAttrs_list PySem.F.slot_list_append PySem.F.type_list_append mt_append (pv 1) (pa_cons (pe_fn (h_code_of T) (hr.mono (by decide)) paN (pa_cons (pv 3) pa_nil)) pa_nil)))) (pss_one ps_never))))))
      (pss_one (ps_ret (pv 1))))))), ?_⟩
    refine ⟨_, rfl, _, _, _, _, true, rfl, .ty _, .base (.str z), kit_ty (by decide +kernel), true, rfl, iteF ?_⟩
    refine ⟨Nat.zero_le _, fun p hp => ?_⟩
    refine ⟨_, rfl, z, rfl, ?_, ?_⟩
    · rw [Array.all_eq_true_iff_forall_mem]
      intro c hc
      rcases hz c (by simpa using hc) with h | h
      · have := okC_lt h
        simp only [decide_eq_true_eq]
        omega
      · simp [h]
    · refine for_it walk_enumS (fun i σ H' => ∃ (v1 v2 : Option V) (os : List Int), σ = [some (.str z), some (.ref p), v1, v2] ∧ Ex H H' ∧ H' p = some (.lst (os.map V.int)) ∧ os.length ≤ 2 * i ∧ ∀ o ∈ os, 0 ≤ o ∧ o ≤ 255)
        ⟨_, _, [], rfl, Ex.new hp, upd_same, Nat.zero_le _, fun o ho => by cases ho⟩ (fun _ _ _ _ _ => trivial) ?_ ?_
      · rintro i x σ H1 H2 hi ⟨v1, v2, os, rfl, e1, h1, hos, hb⟩ ⟨t, c, rfl, ht, rfl, hc⟩
        have pt : p ≠ t := ne_of_none h1 ht
        have hcm : c ∈ z.cps.toList := by
          have : z.cps.toList[i]? = some c := by rw [Array.getElem?_toList]; exact hc
          exact List.mem_of_getElem? this
        have hil : i < z.length := hi
        have big : os.length + 2 ≤ sizeLine := small (by omega)
        refine ⟨t, _, rfl, SqT.of upd_same, rfl, _, _, rfl, _, _, rfl, rfl, ?_⟩
        refine ⟨_, rfl, rfl, _, rfl, ?_⟩
        rw [dec_vs]
        refine ite2 (fun h10 => ?_) (fun h10 => ?_)
        · refine ⟨_, rfl, by show 2 ≤ sizeLine; decide, fun q hq => ?_⟩
          have pq : p ≠ q := fun z => by rw [← z, upd_ne pt, h1] at hq; cases hq
          refine ⟨p, q, os.map V.int, [.int 13, .int 10], rfl, rfl, ?_, upd_same, ?_, ?_⟩
          · rw [upd_ne pq, upd_ne pt]
            exact h1
          · rw [List.length_map]
            exact big
          · refine ⟨_, _, os ++ [13, 10], rfl, ?_, ?_, ?_, ?_⟩
            · exact Evl.Ex.mut (e1.tr ((Ex.new ht).tr (Ex.new hq))) hp
            · rw [upd_same, List.map_append]
              rfl
            · rw [List.length_append]
              show os.length + 2 ≤ _
              omega
            · intro o ho
              rcases List.mem_append.mp ho with ho | ho
              · exact hb o ho
              · simp only [List.mem_cons, List.not_mem_nil, or_false] at ho
                omega
        · refine ⟨_, rfl, c, _, rfl, rfl, _, rfl, ?_⟩
          have hok : okC c = true := by
            rcases hz c hcm with h | h
            · exact h
            · exact absurd (show decide ((⟨#[c]⟩ : Str) = "\n") = true by rw [h]; decide +kernel) h10
          rw [decide_eq_true (mem_chars.mpr hok)]
          refine iteT ?_
          have h1' : upd H1 t (.tup [.int (i : Nat), .str ⟨#[c]⟩]) p = some (.lst (os.map V.int)) := by
            rw [upd_ne pt]
            exact h1
          refine ⟨_, rfl, Or.inl ⟨rfl, _, SqL.of h1'⟩, _, rfl, c, rfl, hok, p, _, _, rfl, rfl, h1', ?_, ?_⟩
          · rw [List.length_map]
            omega
          · refine ⟨_, _, os ++ [(c : Int)], rfl, ?_, ?_, ?_, ?_⟩
            · exact Evl.Ex.mut (e1.tr (Ex.new ht)) hp
            · rw [upd_same, List.map_append]
              rfl
            · rw [List.length_append]
              show os.length + 1 ≤ _
              omega
            · intro o ho
              rcases List.mem_append.mp ho with ho | ho
              · exact hb o ho
              · have e := List.mem_singleton.mp ho
                have := okC_lt hok
                omega
      · rintro σ H' ⟨v1, v2, os, rfl, e1, h1, hos, hb⟩
        exact ⟨_, rfl, k p H' os hp e1 h1 hos hb⟩
/-! ### is_string, is_token -/
def sp_is_string : Sp := fun vs H Q _ => ∃ z : Str, vs = [.str z] ∧ okS z ∧ z.length ≤ 300 ∧ ∀ H', Ex H H' → Q (.bl true) H'
abbrev N_is_string : List Str := ["thing", "character"]
theorem sc_is_string : FnScope N_is_string ["thing"] (defScope s_is_string) := ⟨rfl, rfl, rfl, by decide +kernel, rfl, by decide +kernel, by decide +kernel⟩
theorem h_is_string (T : Txt K w mg A) : Has CX0 P w K mg base "is_string" 1 ["thing"] sp_is_string := by
  refine has0 (k := 0) T.d_is_string sc_is_string (fun _ _ _ _ _ _ us hl => match us, hl with | [_], _ => rfl) (fun vs H Q E h => ?_) (fun f cdv A outer s H vs Q E hr h => ?_)
  · obtain ⟨z, rfl, _⟩ := h
    rfl
  · obtain ⟨z, rfl, hz, hl, k⟩ := h
    refine ⟨_, ((pss_one (ps_ret (pe_and (pe_callB call_isi (by rfl) T.b_isinstance (by decide +kernel) (pa_cons (pv 0) (pa_cons (pe_bltn (v := .ty "str") rfl T.b_str (by decide +kernel) rfl) pa_nil))) (pe_one (pe_callB (cr_all rfl) (by rfl) T.b_all (by decide +kernel) (pa_cons (pe_lc (own := [("character", 1)]) (g := gName 1) (tt := tYes) rfl sc_is_string.nd (pi_str (pv 0)) (blkOk_by (N := N_is_string) (sc := defScope s_is_string) (by decide +kernel)) (fun _ _ _ _ _ => pg_name (i := 1) sc_is_string.nd rfl (Or.inl rfl)) (fun _ _ _ _ _ => pts_nil) (fun _ _ _ _ _ => (pe_cmpR op_in_sign (pv 1) (C8.pe_gc rfl T.c_CHARACTERS) (by rfl)))) pa_nil))))))), ?_⟩
    refine ⟨_, rfl, _, _, _, _, true, rfl, .ty _, .base (.str z), kit_ty (by decide +kernel), true, rfl, iteT ?_⟩
    refine ⟨_, rfl, z, rfl, ?_⟩
    intro D hD
    refine comp_rel hD walk_signs (fun _ _ => trivial) (by rw [signs_len]; omega) (signs_rel z) (fun c => [some (.str z), some (.str ⟨#[c]⟩)]) (fun _ => true) (fun c => .bl (decide (c ∈ CHARS.cps.toList)))
      (fun x d H' r hd _ R q => ?_) (fun d _ => ?_) (fun d H' _ _ R q => ?_) (fun d H' hd _ _ R q => ?_) (fun H' e hd => ?_)
    · rw [r]
      exact q
    · rfl
    · exact q H' (Ex.rfl' _)
    · exact ⟨_, rfl, d, _, rfl, rfl, q H' (Ex.rfl' _)⟩
    · refine ⟨D, z.cps.toList.map fun c => decide (c ∈ CHARS.cps.toList), rfl, SqL.of ?_, ?_⟩
      · rw [hd, filter_true, List.map_map]
        rfl
      · have e1 : ((z.cps.toList.map fun c => decide (c ∈ CHARS.cps.toList)).all id) = true := by
          rw [List.all_map, List.all_eq_true]
          exact fun c hc => decide_eq_true (mem_chars.mpr (hz c hc))
        rw [e1]
        exact k H' e
def sp_is_token : Sp := fun vs H Q _ => ∃ z : Str, vs = [.str z] ∧ z.length ≤ 300 ∧ ∀ H', Ex H H' → Q (.bl (isTok z)) H'
abbrev N_is_token : List Str := ["thing", "sign"]
theorem sc_is_token : FnScope N_is_token ["thing"] (defScope s_is_token) := ⟨rfl, rfl, rfl, by decide +kernel, rfl, by decide +kernel, by decide +kernel⟩
theorem h_is_token (T : Txt K w mg A) : Has CX0 P w K mg base "is_token" 1 ["thing"] sp_is_token := by
  refine has0 (k := 0) T.d_is_token sc_is_token (fun _ _ _ _ _ _ us hl => match us, hl with | [_], _ => rfl) (fun vs H Q E h => ?_) (fun f cdv A outer s H vs Q E hr h => ?_)
  · obtain ⟨z, rfl, _⟩ := h
    rfl
  · obtain ⟨z, rfl, hl, k⟩ := h
    refine ⟨_, ((pss_cons (ps_if (PW.pt (pw_or (pt_not (pt_val (pe_callB call_isi (by rfl) T.b_isinstance (by decide +kernel) (pa_cons (pv 0) (pa_cons (pe_bltn (v := .ty "str") rfl T.b_str (by decide +kernel) rfl) pa_nil))))) (pw_or1 (pt_cmpR op_eq (pv 0) pe_str (nomark _))))) (pss_one (ps_ret pe_bl)) pss_nil)
      (pss_one (ps_ret (pe_callB (cr_all rfl) (by rfl) T.b_all (by decide +kernel) (pa_cons (pe_lc (own := [("sign", 1)]) (g := gName 1) (tt := tYes) rfl sc_is_token.nd (pi_str (pv 0)) (blkOk_by (N := N_is_token) (sc := defScope s_is_token) (by decide +kernel)) (fun _ _ _ _ _ => pg_name (i := 1) sc_is_token.nd rfl (Or.inl rfl)) (fun _ _ _ _ _ => pts_nil) (fun _ _ _ _ _ => (pe_or (pe_cmpR op_in_str (pe_lower (pv 1)) (C8.pe_gc rfl T.c_LETTERS) (by rfl)) (pe_or (pe_cmpR op_in_sign (pv 1) (C8.pe_gc rfl T.c_DIGITS) (by rfl)) (pe_one (pe_cmpR op_in_sign (pv 1) (C8.pe_gc rfl T.c_TOKEN_SIGNS) (by rfl))))))) pa_nil)))))), ?_⟩
    refine ⟨_, rfl, _, _, _, _, true, rfl, .ty _, .base (.str z), kit_ty (by decide +kernel), true, rfl, iteF ?_⟩
    refine ⟨_, rfl, rfl, _, rfl, ?_⟩
    rw [dec_vs]
    refine ite2 (fun h0 => ?_) (fun h0 => ?_)
    · have e1 : isTok z = false := by
        unfold isTok
        rw [h0]
        rfl
      have := k H (Ex.rfl' _)
      rw [e1] at this
      exact this
    · refine ⟨_, rfl, z, rfl, ?_⟩
      intro D hD
      refine comp_rel hD walk_signs (fun _ _ => trivial) (by rw [signs_len]; omega) (signs_rel z) (fun c => [some (.str z), some (.str ⟨#[c]⟩)]) (fun _ => true) (fun c => .bl (tokC c))
        (fun x d H' r hd _ R q => ?_) (fun d _ => ?_) (fun d H' _ _ R q => ?_) (fun d H' hd _ _ R q => ?_) (fun H' e hd => ?_)
      · rw [r]
        exact q
      · rfl
      · exact q H' (Ex.rfl' _)
      · have q := q H' (Ex.rfl' _)
        refine ⟨_, rfl, ⟨_, rfl⟩, _, rfl, rfl, by show (1 : Nat) ≤ 5592405; decide, _, _, rfl, rfl, _, rfl, ?_⟩
        unfold tokC at q
        refine ite2 (fun h1 => ?_) (fun h1 => ?_)
        · rw [h1, Bool.true_or] at q
          exact q
        · rw [Bool.not_eq_true] at h1
          rw [h1, Bool.false_or] at q
          refine ⟨_, rfl, d, _, rfl, rfl, _, rfl, ?_⟩
          refine ite2 (fun h2 => ?_) (fun h2 => ?_)
          · rw [h2, Bool.true_or] at q
            exact q
          · rw [Bool.not_eq_true] at h2
            rw [h2, Bool.false_or] at q
            exact ⟨_, rfl, d, _, rfl, rfl, q⟩
      · refine ⟨D, z.cps.toList.map tokC, rfl, SqL.of ?_, ?_⟩
        · rw [hd, filter_true, List.map_map]
          rfl
        · have h0' : decide (z = "") = false := by simpa using h0
          have e1 : ((z.cps.toList.map tokC).all id) = isTok z := by
            unfold isTok
            rw [h0', List.all_map]
            rfl
          rw [e1]
          exact k H' e
end
end K32

namespace K32
open PySem PySem.Spec PyProof.Rows L2
section
variable {P : Program} {w : World} {K : PySem.W.Frag} {mg : Str → Option Value} {base : Heap} {A : Adr}
/-! ### BadLine, BadFrame -/
abbrev N_BadLine_init : List Str := ["self", "kind"]
theorem sc_BadLine_init : FnScope N_BadLine_init ["self", "kind"] (defScope s_BadLine_init) := ⟨rfl, rfl, rfl, by decide +kernel, rfl, by decide +kernel, by decide +kernel⟩
abbrev N_BadFrame_init : List Str := ["self", "kind"]
theorem sc_BadFrame_init : FnScope N_BadFrame_init ["self", "kind"] (defScope s_BadFrame_init) := ⟨rfl, rfl, rfl, by decide +kernel, rfl, by decide +kernel, by decide +kernel⟩
theorem line_len (z : Str) (hz : z.length ≤ 100) : (Str.empty ++ Str.ofString "bad line: " ++ z).length ≤ sizeLine := by
  have e1 : (Str.empty ++ Str.ofString "bad line: ").length = 10 := by decide +kernel
  rw [str_len_app, e1]
  exact small (by omega)
theorem frame_len (z : Str) (hz : z.length ≤ 100) : (Str.empty ++ Str.ofString "bad frame: " ++ z).length ≤ sizeLine := by
  have e1 : (Str.empty ++ Str.ofString "bad frame: ").length = 11 := by decide +kernel
  rw [str_len_app, e1]
  exact small (by omega)
theorem hx_BadLine (T : Txt K w mg A) : ExcH P w K mg base "BadLine" A.BL := by
  obtain ⟨f, fd, X, F⟩ := T.d_BadLine_init.ex
  refine ⟨f, fd, T.g_BadLine, X, F.bindsN (fun _ _ _ _ _ _ us hl => match us, hl with | [_, _], _ => rfl), F.ok (k := 0) sc_BadLine_init (fun vs H Q E h => ?_) fun cdv A0 outer s H vs Q E hr h => ?_⟩
  · obtain ⟨a, z, rfl, _⟩ := h
    rfl
  · obtain ⟨a, z, rfl, hz, ha, k⟩ := h
    have G : PSs (cxOf CX0 P w K mg base N_BadLine_init "BadLine.__init__" (defScope s_BadLine_init) f cdv A0 outer s H E).nox (defBody s_BadLine_init) _ := ((pss_cons (ps_expr (pe_veinit rfl T.b_ValueError rfl (pa_cons (pv 0) (pa_cons (pe_joined (PJ.cons pe_str (PJ.cons (pe_fmt (pv 1)) PJ.nil))) pa_nil))))
      (pss_one (ps_ost (pv 0) (pv 1)))))
    refine ⟨_, G.nox, ?_⟩
    refine ⟨_, rfl, "bad line: ", rfl, by decide +kernel, _, rfl, Or.inl ⟨_, rfl, small (by omega), _, rfl, line_len _ hz, a, A.BL, [_], rfl, (by show 1 ≤ 1000; decide), X.oex, ha, ?_⟩⟩
    refine ⟨_, rfl, _, rfl, a, A.BL, rfl, X.oex, X.nk, Or.inl ⟨ha, fun d hd hne => k d _ hd hne rfl⟩⟩
theorem hx_BadFrame (T : Txt K w mg A) : ExcH P w K mg base "BadFrame" A.BF := by
  obtain ⟨f, fd, X, F⟩ := T.d_BadFrame_init.ex
  refine ⟨f, fd, T.g_BadFrame, X, F.bindsN (fun _ _ _ _ _ _ us hl => match us, hl with | [_, _], _ => rfl), F.ok (k := 0) sc_BadFrame_init (fun vs H Q E h => ?_) fun cdv A0 outer s H vs Q E hr h => ?_⟩
  · obtain ⟨a, z, rfl, _⟩ := h
    rfl
  · obtain ⟨a, z, rfl, hz, ha, k⟩ := h
    have G : PSs (cxOf CX0 P w K mg base N_BadFrame_init "BadFrame.__init__" (defScope s_BadFrame_init) f cdv A0 outer s H E).nox (defBody s_BadFrame_init) _ := ((pss_cons (ps_expr (pe_veinit rfl T.b_ValueError rfl (pa_cons (pv 0) (pa_cons (pe_joined (PJ.cons pe_str (PJ.cons (pe_fmt (pv 1)) PJ.nil))) pa_nil))))
      (pss_one (ps_ost (pv 0) (pv 1)))))
    refine ⟨_, G.nox, ?_⟩
    refine ⟨_, rfl, "bad frame: ", rfl, by decide +kernel, _, rfl, Or.inl ⟨_, rfl, small (by omega), _, rfl, frame_len _ hz, a, A.BF, [_], rfl, (by show 1 ≤ 1000; decide), X.oex, ha, ?_⟩⟩
    refine ⟨_, rfl, _, rfl, a, A.BF, rfl, X.oex, X.nk, Or.inl ⟨ha, fun d hd hne => k d _ hd hne rfl⟩⟩
/-- an error of a kind -/
def ErrP (C : Addr) (k : Str) (H : Hp) (E : XK) : Prop := ∀ d H', H d = none → Ex H H' → H' d = some (.xd [("kind", .str k)]) → E (.ref C) (some d) H'
theorem ErrP.of {C : Addr} {k : Str} {H H1 : Hp} {E : XK} (e : Ex H H1) (h : ErrP C k H E) : ErrP C k H1 E := fun d H' hd e2 hx => h d H' (e.free hd) (e.tr e2) hx
theorem ErrP.self {C : Addr} {k : Str} {H : Hp} {E : XK} (h : ErrP C k H E) : ∀ d H2, H d = none → Evl.Ex H H2 → H2 d = some (.xd [(("kind" : Str), .str k)]) → E (.ref C) (some d) H2 := h
theorem ite_neg {p : Prop} {b : Bool} (h : b = false) : ((!b) = true) := by rw [h]; rfl
/-! ### read_field -/
def sp_read_field : Sp := fun vs H Q E => ∃ z : Str, vs = [.str z] ∧ okS z ∧ z.length ≤ 300 ∧ (∀ f t H', mField z = some f → H t = none → Ex H H' → H' t = some (.tup [.str f.1, .str f.2]) → Q (.ref t) H') ∧ (mField z = none → ErrP A.BL "field" H E)
abbrev N_read_field : List Str := ["line", "name", "colon", "value"]
theorem sc_read_field : FnScope N_read_field ["line"] (defScope s_read_field) := ⟨rfl, rfl, rfl, by decide +kernel, rfl, by decide +kernel, by decide +kernel⟩
theorem h_read_field (T : Txt K w mg A) : Has (L2N.CX P w) P w K mg base "read_field" 3 ["line"] (sp_read_field (A := A)) := by
  refine hasX (k := 2) T.d_read_field sc_read_field (fun _ _ _ _ _ _ us hl => match us, hl with | [_], _ => rfl) (fun vs H Q E h => ?_) (fun f cdv A0 outer s H vs Q E hr tkB h => ?_)
  · obtain ⟨z, rfl, _⟩ := h
    rfl
  · obtain ⟨z, rfl, hz, hl, k1, k2⟩ := h
    refine ⟨_, ((pss_cons (ps_if (pt_not (pt_val (pe_fn (h_is_string T) (hr.mono (by decide)) paN (pa_cons (pv 0) pa_nil)))) (pss_one (ps_raiseK (hx_BadLine T) (hr.mono (by decide)) rfl tkB pe_str)) pss_nil)
      (pss_cons (ps_asg (pe_partition (pv 0) pe_str) (pg_tup (by rfl) (pgs_cons (pg_name (i := 1) sc_read_field.nd rfl (.inl rfl)) (pgs_cons (pg_name (i := 2) sc_read_field.nd rfl (.inl rfl)) (pgs_cons (pg_name (i := 3) sc_read_field.nd rfl (.inl rfl)) pgs_nil)))))
      (pss_cons (ps_if (PW.pt (pw_or (pt_cmpR op_eq (pv 2) pe_str (nomark _)) (pw_or1 (pt_not (pt_val (pe_fn (h_is_token T) (hr.mono (by decide)) paN (pa_cons (pv 1) pa_nil))))))) (pss_one (ps_raiseK (hx_BadLine T) (hr.mono (by decide)) rfl tkB pe_str)) pss_nil)
      (pss_one (ps_ret (pe_tup (pa_cons (pe_lower (pv 1)) (pa_cons (pe_m1 F.slot_str_strip F.type_str_strip mt_stripChars (pv 3) pe_str) pa_nil))))))))), ?_⟩
    refine ⟨_, rfl, z, rfl, hz, hl, fun H1 e1 => ?_⟩
    refine ⟨true, rfl, iteF ?_⟩
    refine ⟨_, rfl, ⟨_, rfl⟩, z, ":", rfl, rfl, by decide +kernel, small (by omega), fun t ht => ?_⟩
    refine ⟨t, _, rfl, SqT.of upd_same, rfl, _, _, rfl, _, _, rfl, _, _, rfl, rfl, ?_⟩
    refine ⟨_, rfl, rfl, _, rfl, ?_⟩
    rw [dec_vs]
    refine ite2 (fun h0 => ?_) (fun h0 => ?_)
    · refine ⟨_, rfl, by decide +kernel, ?_⟩
      exact ((k2 (by unfold mField; rw [if_pos (Or.inl (of_decide_eq_true h0))])).of (e1.tr (Ex.new ht))).self
    · refine ⟨_, rfl, _, rfl, ?_, fun H2 e2 => ?_⟩
      · exact Nat.le_trans (part_len sep_colon).1 hl
      · have e3 := (e1.tr (Ex.new ht)).tr e2
        refine ⟨_, rfl, ?_⟩
        refine ite2 (fun h1 => ?_) (fun h1 => ?_)
        · refine ⟨_, rfl, by decide +kernel, ?_⟩
          exact ((k2 (by unfold mField; rw [if_pos (Or.inr (by simpa using h1))])).of e3).self
        · have hm : mField z = some (Txt.lower (Txt.partition z ":").1, Txt.stripChars (Txt.partition z ":").2.2 " ") := by
            unfold mField
            rw [if_neg]
            rintro (q | q)
            · exact h0 (decide_eq_true q)
            · exact h1 (by rw [q]; rfl)
          have p1 := part_len (x := z) sep_colon
          refine ⟨_, rfl, ⟨_, rfl⟩, _, rfl, rfl, by omega, _, rfl, ⟨_, rfl⟩, _, _, rfl, rfl, small (by omega), ?_⟩
          refine ⟨by show 2 ≤ sizeLine; decide, fun q hq => ?_⟩
          exact k1 _ q _ hm (e3.free hq) (e3.tr (Ex.new hq)) upd_same
end
end K32

namespace K32
open PySem PySem.Spec PyProof.Rows L2
/-! ### a def with keyword-only parameters, all written -/
theorem vals_app : ∀ {vs zs : List V} {us ws : List Value}, Vals vs us → Vals zs ws → Vals (vs ++ zs) (us ++ ws)
  | _, _, _, _, .nil, r => r
  | _, _, _, _, .cons a b, r => .cons a (vals_app b r)
section
variable {P : Program} {w : World} {K : PySem.W.Frag} {mg : Str → Option Value} {base : Heap} {x m qual : Str} {st : Stmt} {N ps ks : List Str} {k n : Nat} {sp : Sp} {C : Addr} {kws : List (Str × V)}
abbrev KBindOk (x qual : Str) (st : Stmt) (ps : List Str) (n : Nat) (ks : List Str) : Prop := ∀ (D : Addr) (doc pm : Value) (an : Option Addr) (cdv ct : Value) (us ws : List Value), us.length = n → ws.length = ks.length →
  bindArgs (PySem.W.fnOf x qual (defArgs st) (defBody st) (defScope st) .none (.ref D) doc pm an cdv ct) ⟨us, ks.zip ws⟩ = pure (ps.zip (us ++ ws))
theorem kb_of {f : Addr} {fd : FuncData} (F : FunD K x qual (defArgs st) (defBody st) (defScope st) [] kws f fd) (hk : kws ≠ []) (hb : KBindOk x qual st ps n ks) : KBn K fd ps n ks (fun us ws => us ++ ws) (fun vs zs => vs ++ zs) := by
  obtain ⟨mv, B⟩ := F.kbinds0 (ps := ps) n ks [] (fun vs _ zs => vs ++ zs) hk (fun q hq => by cases hq) (fun r1 _ r3 => vals_app r1 r3) (fun D doc pm an cdv ct us mv ws l1 l2 l3 => by
    cases mv with
    | nil => exact hb D doc pm an cdv ct us ws l1 l3
    | cons _ _ => cases l2)
  exact B
theorem hasK0 (D : DefAt K mg x st kws) (hk : kws ≠ []) (S : FnScope N ps (defScope st)) (hb : KBindOk x x st ps n ks) (len : ∀ vs H Q E, sp vs H Q E → vs.length = ps.length)
    (hbody : ∀ (f : Addr) (cdv : Value) (A : Around) (outer : List Env) (s : Shared) (H : Hp) (vs : List V) (Q : VK) (E : XK), Room k (A.deeper (envOfC x (defScope st) s.heap.objs.size f cdv)) → sp vs H Q E →
      ∃ t, PSs (cxOf CX0 P w K mg base N x (defScope st) f cdv A outer s H E).nox (defBody st) t ∧ t { nx := fun _ H' => Q .non H', rt := Q } (L2.start N vs) H) : HasK CX0 P w K mg base x (k + 1) n ks sp := by
  obtain ⟨f, fd, hm, F⟩ := D.ex
  refine ⟨f, fd, ps, hm, F.kp, kb_of F hk hb, F.ok S len fun cdv A outer s H vs Q E hr h => ?_⟩
  obtain ⟨t, a, b⟩ := hbody f cdv A outer s H vs Q E hr h
  exact ⟨t, a.nox, b⟩
theorem hasKX (D : DefAt K mg x st kws) (hk : kws ≠ []) (S : FnScope N ps (defScope st)) (hb : KBindOk x x st ps n ks) (len : ∀ vs H Q E, sp vs H Q E → vs.length = ps.length)
    (hbody : ∀ (f : Addr) (cdv : Value) (A : Around) (outer : List Env) (s : Shared) (H : Hp) (vs : List V) (Q : VK) (E : XK), Room k (A.deeper (envOfC x (defScope st) s.heap.objs.size f cdv)) →
      L2N.Takes (cxOf (L2N.CX P w) P w K mg base N x (defScope st) f cdv A outer s H E) (fun cls d _ H => E cls d H) → sp vs H Q E →
      ∃ t, PSs (cxOf (L2N.CX P w) P w K mg base N x (defScope st) f cdv A outer s H E) (defBody st) t ∧ t { nx := fun _ H' => Q .non H', rt := Q } (L2.start N vs) H) : HasK (L2N.CX P w) P w K mg base x (k + 1) n ks sp := by
  obtain ⟨f, fd, hm, F⟩ := D.ex
  exact ⟨f, fd, ps, hm, F.kp, kb_of F hk hb, F.ok S len fun cdv A outer s H vs Q E hr h => hbody f cdv A outer s H vs Q E hr (L2N.takes_of rfl rfl rfl rfl) h⟩
theorem hasMK0 (D : MetAt K C m qual st kws) (hk : kws ≠ []) (S : FnScope N ps (defScope st)) (hb : KBindOk m qual st ps n ks) (len : ∀ vs H Q E, sp vs H Q E → vs.length = ps.length)
    (hbody : ∀ (f : Addr) (cdv : Value) (A : Around) (outer : List Env) (s : Shared) (H : Hp) (vs : List V) (Q : VK) (E : XK), Room k (A.deeper (envOfC qual (defScope st) s.heap.objs.size f cdv)) → sp vs H Q E →
      ∃ t, PSs (cxOf CX0 P w K mg base N qual (defScope st) f cdv A outer s H E).nox (defBody st) t ∧ t { nx := fun _ H' => Q .non H', rt := Q } (L2.start N vs) H) : HasMK CX0 P w K mg base C m (k + 1) n ks sp := by
  obtain ⟨f, fd, hm, F⟩ := D.ex
  refine ⟨f, fd, ps, hm, kb_of F hk hb, F.ok S len fun cdv A outer s H vs Q E hr h => ?_⟩
  obtain ⟨t, a, b⟩ := hbody f cdv A outer s H vs Q E hr h
  exact ⟨t, a.nox, b⟩
end
/-! ### frames, their mirror -/
inductive Fr where
  | chunked
  | len (n : Int)
  | info
  | switch
  | close
deriving DecidableEq
def Fr.v : Fr → List V
  | .chunked => [.str "chunked"]
  | .len n => [.str "length", .int n]
  | .info => [.str "info"]
  | .switch => [.str "switch"]
  | .close => [.str "close"]
def numOf (z : Str) : Int := (intText? z).getD 0
abbrev TE_ : Str := "transfer-encoding"
abbrev CL_ : Str := "content-length"
def frameErr (v : Int) (fs : List Fld) (b : Bk) : Str :=
  if hasF fs TE_ && (!eqSS (itemsOf fs TE_) ["chunked"] || (decide (v = 0) && !decide (b.old = "accept"))) then "coding"
  else if hasF fs CL_ then
    if (itemsOf fs CL_).isEmpty || !((itemsOf fs CL_).all fun z => isLen z b.digits) then "length"
    else if decide (1 < ((itemsOf fs CL_).length : Int)) && (!decide (b.lengths = "equal") || decide (1 < ((setN ((itemsOf fs CL_).map numOf)).2 : Int))) then "length"
    else if hasF fs TE_ && decide (b.both = "refuse") then "both" else ""
  else ""
def plainFr (fs : List Fld) : Option Fr := if hasF fs TE_ then some .chunked else if hasF fs CL_ then some (.len (numOf ((itemsOf fs CL_).headD ""))) else none
def reqFr (v : Int) (fs : List Fld) (b : Bk) : Except Str Fr := if frameErr v fs b = "" then .ok ((plainFr fs).getD (.len 0)) else .error (frameErr v fs b)
def respFr (s v : Int) (fs : List Fld) (b : Bk) (method : Str) (up : Bool) : Except Str Fr :=
  if frameErr v fs b = "" then
    if decide (s = 101) && !up then .error "unasked"
    else if decide (s < 200) && !decide (s = 101) then .ok .info
    else if decide (s = 101) || (decide (method = "CONNECT") && decide (s < 300)) then .ok .switch
    else if (decide (s = 204) || decide (s = 304)) || decide (method = "HEAD") then .ok (.len 0)
    else .ok ((plainFr fs).getD .close)
  else .error (frameErr v fs b)
def persB (v : Int) (fs : List Fld) (b : Bk) : Bool :=
  if decide (("close" : Str) ∈ itemsOf fs "connection") then false else decide (v = 1) || (decide (("keep-alive" : Str) ∈ itemsOf fs "connection") && b.keep)
def upB (v : Int) (fs : List Fld) : Bool := decide (v = 1) && decide (("upgrade" : Str) ∈ itemsOf fs "connection")
structure BkOk (b : Bk) : Prop where
  l1 : 40 ≤ b.line
  l2 : b.line ≤ 200
  f1 : 2 ≤ b.fields
  f2 : b.fields ≤ 20
  d1 : 1 ≤ b.digits
  d2 : b.digits ≤ 8
def digitsB (z : Str) : Bool := z.cps.toList.all fun c => decide (c ∈ DIGITS.cps.toList)
theorem mem_digits {c : Nat} (h : decide (c ∈ DIGITS.cps.toList) = true) : 48 ≤ c ∧ c ≤ 57 := by
  have e : DIGITS.cps.toList = [48, 49, 50, 51, 52, 53, 54, 55, 56, 57] := by decide +kernel
  rw [decide_eq_true_eq, e] at h
  simp only [List.mem_cons, List.not_mem_nil, or_false] at h
  omega
theorem num_of {z : Str} (h : ∀ c ∈ z.cps.toList, 48 ≤ c ∧ c ≤ 57) (h1 : 1 ≤ z.length) (h2 : z.length ≤ 600) : intText? z = some (numOf z) ∧ 0 ≤ numOf z := by
  have ne : z.cps.toList ≠ [] := fun q => by
    have : z.cps.toList.length = z.length := Array.length_toList
    rw [q] at this
    simp at this
    omega
  have e := PySem.intText_digits (x := z) h ne (by omega)
  unfold numOf
  rw [e]
  exact ⟨rfl, Int.natCast_nonneg _⟩
theorem isLen_num {z : Str} {m : Int} (h : isLen z m = true) (hm : m ≤ 8) : intText? z = some (numOf z) ∧ 0 ≤ numOf z := by
  unfold isLen at h
  simp only [Bool.and_eq_true, decide_eq_true_eq, List.all_eq_true] at h
  obtain ⟨⟨h1, h2⟩, h3⟩ := h
  exact num_of (fun c hc => mem_digits (decide_eq_true (h3 c hc))) (by omega) (by omega)
theorem frameErr_len (v : Int) (fs : List Fld) (b : Bk) : (frameErr v fs b).length ≤ 100 := by
  unfold frameErr
  split
  · decide +kernel
  · split
    · split
      · decide +kernel
      · split
        · decide +kernel
        · split <;> decide +kernel
    · decide +kernel
/-- where there is no error: the items of a length -/
theorem frame_ok {v : Int} {fs : List Fld} {b : Bk} (h : frameErr v fs b = "") (hl : hasF fs CL_ = true) (hb : BkOk b) : ∃ z r, itemsOf fs CL_ = z :: r ∧ intText? z = some (numOf z) ∧ 0 ≤ numOf z ∧ z.length ≤ 8 := by
  unfold frameErr at h
  rw [hl] at h
  have n1 : ("coding" : Str) ≠ "" := by decide +kernel
  have n2 : ("length" : Str) ≠ "" := by decide +kernel
  split at h
  · exact absurd h n1
  · rw [if_pos rfl] at h
    split at h
    · exact absurd h n2
    · rename_i h1
      rw [Bool.or_eq_true, not_or] at h1
      obtain ⟨h1, h2⟩ := h1
      cases q : itemsOf fs CL_ with
      | nil => rw [q] at h1; exact absurd rfl h1
      | cons z r =>
        have h3 : isLen z b.digits = true := by
          have h2' : ((itemsOf fs CL_).all fun z => isLen z b.digits) = true := by simpa using h2
          rw [q, List.all_cons, Bool.and_eq_true] at h2'
          exact h2'.1
        obtain ⟨e1, e2⟩ := isLen_num h3 hb.d2
        refine ⟨z, r, rfl, e1, e2, ?_⟩
        unfold isLen at h3
        simp only [Bool.and_eq_true, decide_eq_true_eq] at h3
        have := hb.d2
        omega
end K32

namespace K32
open PySem PySem.Spec PyProof.Rows L2
section
variable {P : Program} {w : World} {K : PySem.W.Frag} {mg : Str → Option Value} {base : Heap} {A : Adr}
theorem inV_strs (z : Str) : ∀ ys : List Str, inV (.str z) (ys.map V.str) = decide (z ∈ ys)
  | [] => by simp [inV]
  | y :: r => by
    have ih := inV_strs z r
    unfold inV at ih ⊢
    rw [List.map_cons, List.any_cons, ih]
    show ((y == z) || decide (z ∈ r)) = decide (z ∈ y :: r)
    by_cases h : y = z
    · subst h
      simp
    · have h1 : (y == z) = false := by simpa using h
      have h2 : ¬ z = y := fun q => h q.symm
      rw [h1]
      simp [h2]
theorem all_flat_strs (ys : List Str) : (ys.map V.str).all flatV = true := by
  rw [List.all_map, List.all_eq_true]
  intro y _
  rfl
theorem hasF_mem (fs : List Fld) (z : Str) : hasF fs z = decide (z ∈ fs.map (·.1)) := by
  unfold hasF
  rw [Bool.eq_iff_iff]
  simp only [List.any_eq_true, decide_eq_true_eq]
  exact ⟨fun ⟨x, h1, h2⟩ => h2 ▸ h1, fun h => ⟨_, h, rfl⟩⟩
/-! ### items_of, has_field -/
def sp_items_of : Sp := fun vs H Q _ => ∃ (a : Addr) (z : Str) (fs : List Fld), vs = [.ref a, .str z] ∧ FT H a fs ∧ OkFs fs ∧ z.length ≤ 100 ∧ ∀ p H', H p = none → Ex H H' → H' p = some (.lst ((itemsOf fs z).map V.str)) → Q (.ref p) H'
abbrev N_items_of : List Str := ["fields", "name", "values", "parts", "other", "value", "part"]
theorem sc_items_of : FnScope N_items_of ["fields", "name"] (defScope s_items_of) := ⟨rfl, rfl, rfl, by decide +kernel, rfl, by decide +kernel, by decide +kernel⟩
theorem h_items_of (T : Txt K w mg A) : Has CX0 P w K mg base "items_of" 1 ["fields", "name"] sp_items_of := by
  refine has0 (k := 0) T.d_items_of sc_items_of (fun _ _ _ _ _ _ us hl => match us, hl with | [_, _], _ => rfl) (fun vs H Q E h => ?_) (fun f cdv A0 outer s H vs Q E hr h => ?_)
  · obtain ⟨a, z, fs, rfl, _⟩ := h
    rfl
  · obtain ⟨a, z, fs, rfl, ⟨xs, ha, hp⟩, hok, hz, k⟩ := h
    have lx : xs.length = fs.length := hp.length
    have l20 := hok.1
    refine ⟨_, ((pss_cons (ps_setLc (i := 2) (own := [("other", 4), ("value", 5)]) (g := gTup K 2 (gCons (gName 4) (gCons (gName 5) gNil))) rfl sc_items_of.nd rfl rfl (sw_true rfl rfl rfl (by decide +kernel)) (pi_tup (pv 0)) (blkOk_by (N := N_items_of) (sc := defScope s_items_of) (by decide +kernel)) (fun _ _ _ _ _ => pg_tup (by rfl) (pgs_cons (pg_name (i := 4) sc_items_of.nd rfl (Or.inl rfl)) (pgs_cons (pg_name (i := 5) sc_items_of.nd rfl (Or.inl rfl)) pgs_nil))) (fun _ _ _ _ _ => pts_one (pt_cmpR op_eq (pv 4) (pe_lower (pv 1)) (nomark _))) (fun _ _ _ _ _ => (pv 5)))
      (pss_cons (ps_setLc (i := 3) (own := [("part", 6)]) (g := gName 6) (tt := tYes) rfl sc_items_of.nd rfl rfl (sw_true rfl rfl rfl (by decide +kernel)) (pi_list (pe_split (pe_join pe_str (pv 2)) pe_str)) (blkOk_by (N := N_items_of) (sc := defScope s_items_of) (by decide +kernel)) (fun _ _ _ _ _ => pg_name (i := 6) sc_items_of.nd rfl (Or.inl rfl)) (fun _ _ _ _ _ => pts_nil) (fun _ _ _ _ _ => (pe_lower (pe_m1 F.slot_str_strip F.type_str_strip mt_stripChars (pv 6) pe_str))))
      (pss_one (ps_ret (pe_lc (own := [("part", 6)]) (g := gName 6) rfl sc_items_of.nd (pi_list (pv 3)) (blkOk_by (N := N_items_of) (sc := defScope s_items_of) (by decide +kernel)) (fun _ _ _ _ _ => pg_name (i := 6) sc_items_of.nd rfl (Or.inl rfl)) (fun _ _ _ _ _ => pts_one (pt_cmpR op_ne (pv 6) pe_str (nomark _))) (fun _ _ _ _ _ => (pv 6)))))))), ?_⟩
    refine ⟨_, rfl, a, rfl, ⟨_, SqT.of ha⟩, ?_⟩
    intro D hD
    refine comp_rel (G := fun H => SqT K H a xs) hD walk_tup (fun H' e => SqT.of (e _ _ ha)) (by omega) hp (fun f => [some (.ref a), some (.str z), none, none, some (.str f.1), some (.str f.2), none]) (fun f => decide (f.1 = Txt.lower z)) (fun f => .str f.2)
      (fun x d H' r hd e R q => ?_) (fun d _ => ?_) (fun d H' hd _ R q => ?_) (fun d H' hd _ _ R q => ?_) (fun H1 e1 hd1 => ?_)
    · obtain ⟨t, rfl, ht⟩ := r
      exact ⟨t, _, rfl, SqT.of (e _ _ ht), rfl, _, _, rfl, _, _, rfl, rfl, q⟩
    · rfl
    · refine ⟨_, rfl, _, rfl, ⟨_, rfl⟩, z, rfl, rfl, by omega, rfl, _, rfl, ?_⟩
      rw [dec_vs]
      exact q H' (Ex.rfl' _)
    · exact ⟨_, rfl, q H' (Ex.rfl' _)⟩
    · have hd2 : H1 D = some (.lst ((valsOf fs z).map V.str)) := by
        rw [hd1]
        unfold valsOf
        rw [List.map_map]
        rfl
      obtain ⟨j1, j2⟩ := joined_len (name := z) hok
      refine ⟨⟨_, rfl⟩, _, rfl, ",", D, valsOf fs z, rfl, rfl, Or.inl (SqL.of hd2), by omega, ⟨_, rfl⟩, _, ",", rfl, rfl, by decide +kernel, small (by omega), fun p1 hp1 => ?_⟩
      refine ⟨p1, rfl, ⟨_, SqL.of upd_same⟩, ?_⟩
      intro D2 hD2
      have sn := split_num (x := Txt.join "," (valsOf fs z)) sep_comma
      refine comp_rel (G := fun H => SqL K H p1 ((Txt.split (Txt.join "," (valsOf fs z)) ",").map V.str)) hD2 walk_list (fun H' e => SqL.of (e _ _ upd_same)) (by rw [List.length_map]; omega) (strs_rel _)
        (fun y => [some (.ref a), some (.str z), some (.ref D), none, none, none, some (.str y)]) (fun _ => true) (fun y => .str (Txt.lower (Txt.stripChars y " ")))
        (fun x d H' r hd e R q => ?_) (fun d _ => ?_) (fun d H' hd _ R q => ?_) (fun d H' hd _ _ R q => ?_) (fun H2 e2 hd3 => ?_)
      · rw [r]; exact q
      · rfl
      · exact q H' (Ex.rfl' _)
      · have h1 := split_len sep_comma hd
        have h2 := PyProof.Rows.len_stripChars d " "
        exact ⟨_, rfl, ⟨_, rfl⟩, _, _, rfl, rfl, small (by omega), ⟨_, rfl⟩, _, rfl, rfl, by omega, q H' (Ex.rfl' _)⟩
      · have hd4 : H2 D2 = some (.lst (((Txt.split (Txt.join "," (valsOf fs z)) ",").map fun y => Txt.lower (Txt.stripChars y " ")).map V.str)) := by
          rw [hd3, filter_true, List.map_map]
          rfl
        refine ⟨_, rfl, D2, rfl, ⟨_, SqL.of hd4⟩, ?_⟩
        intro D3 hD3
        refine comp_rel (G := fun H => SqL K H D2 _) hD3 walk_list (fun H' e => SqL.of (e _ _ hd4)) (by rw [List.length_map, List.length_map]; omega) (strs_rel _)
          (fun y => [some (.ref a), some (.str z), some (.ref D), some (.ref D2), none, none, some (.str y)]) (fun y => !decide (y = "")) (fun y => .str y)
          (fun x d H' r hd e R q => ?_) (fun d _ => ?_) (fun d H' hd _ R q => ?_) (fun d H' hd _ _ R q => ?_) (fun H3 e3 hd5 => ?_)
        · rw [r]; exact q
        · rfl
        · refine ⟨_, rfl, rfl, _, rfl, ?_⟩
          rw [dec_vs]
          exact q H' (Ex.rfl' _)
        · exact ⟨_, rfl, q H' (Ex.rfl' _)⟩
        · have e23 : Ex H H2 := (e1.tr (Ex.new hp1)).tr e2
          exact k D3 H3 (e23.free hD3) (e23.tr e3) hd5
def sp_has_field : Sp := fun vs H Q _ => ∃ (a : Addr) (z : Str) (fs : List Fld), vs = [.ref a, .str z] ∧ FT H a fs ∧ OkFs fs ∧ ∀ H', Ex H H' → Q (.bl (hasF fs z)) H'
abbrev N_has_field : List Str := ["fields", "name", "other", "value"]
theorem sc_has_field : FnScope N_has_field ["fields", "name"] (defScope s_has_field) := ⟨rfl, rfl, rfl, by decide +kernel, rfl, by decide +kernel, by decide +kernel⟩
theorem h_has_field (T : Txt K w mg A) : Has CX0 P w K mg base "has_field" 1 ["fields", "name"] sp_has_field := by
  refine has0 (k := 0) T.d_has_field sc_has_field (fun _ _ _ _ _ _ us hl => match us, hl with | [_, _], _ => rfl) (fun vs H Q E h => ?_) (fun f cdv A0 outer s H vs Q E hr h => ?_)
  · obtain ⟨a, z, fs, rfl, _⟩ := h
    rfl
  · obtain ⟨a, z, fs, rfl, ⟨xs, ha, hp⟩, hok, k⟩ := h
    have lx : xs.length = fs.length := hp.length
    have l20 := hok.1
    refine ⟨_, ((pss_one (ps_ret (pe_cmpR op_in_seq (pv 1) (pe_lc (own := [("other", 2), ("value", 3)]) (g := gTup K 2 (gCons (gName 2) (gCons (gName 3) gNil))) (tt := tYes) rfl sc_has_field.nd (pi_tup (pv 0)) (blkOk_by (N := N_has_field) (sc := defScope s_has_field) (by decide +kernel)) (fun _ _ _ _ _ => pg_tup (by rfl) (pgs_cons (pg_name (i := 2) sc_has_field.nd rfl (Or.inl rfl)) (pgs_cons (pg_name (i := 3) sc_has_field.nd rfl (Or.inl rfl)) pgs_nil))) (fun _ _ _ _ _ => pts_nil) (fun _ _ _ _ _ => (pv 2))) (by rfl))))), ?_⟩
    refine ⟨_, rfl, _, rfl, a, rfl, ⟨_, SqT.of ha⟩, ?_⟩
    intro D hD
    refine comp_rel (G := fun H => SqT K H a xs) hD walk_tup (fun H' e => SqT.of (e _ _ ha)) (by omega) hp (fun f => [some (.ref a), some (.str z), some (.str f.1), some (.str f.2)]) (fun _ => true) (fun f => .str f.1)
      (fun x d H' r hd e R q => ?_) (fun d _ => ?_) (fun d H' hd _ R q => ?_) (fun d H' hd _ _ R q => ?_) (fun H1 e1 hd1 => ?_)
    · obtain ⟨t, rfl, ht⟩ := r
      exact ⟨t, _, rfl, SqT.of (e _ _ ht), rfl, _, _, rfl, _, _, rfl, rfl, q⟩
    · rfl
    · exact q H' (Ex.rfl' _)
    · exact ⟨_, rfl, q H' (Ex.rfl' _)⟩
    · have hd2 : H1 D = some (.lst ((fs.map (·.1)).map V.str)) := by
        rw [hd1, filter_true, List.map_map]
        rfl
      refine ⟨D, _, rfl, Or.inl (SqL.of hd2), rfl, all_flat_strs _, ?_⟩
      show Q (.bl (inV (.str z) ((fs.map (·.1)).map V.str))) H1
      rw [inV_strs, ← hasF_mem]
      exact k H1 e1
/-! ### is_length -/
def sp_is_length : Sp := fun vs H Q _ => ∃ (z : Str) (p : Addr) (b : Bk), vs = [.str z, .ref p] ∧ z.length ≤ 90000 ∧ BookAt A H p b ∧ ∀ H', Ex H H' → Q (.bl (isLen z b.digits)) H'
abbrev N_is_length : List Str := ["item", "book", "digit"]
theorem sc_is_length : FnScope N_is_length ["item", "book"] (defScope s_is_length) := ⟨rfl, rfl, rfl, by decide +kernel, rfl, by decide +kernel, by decide +kernel⟩
theorem h_is_length (T : Txt K w mg A) : Has CX0 P w K mg base "is_length" 1 ["item", "book"] (sp_is_length (A := A)) := by
  refine has0 (k := 0) T.d_is_length sc_is_length (fun _ _ _ _ _ _ us hl => match us, hl with | [_, _], _ => rfl) (fun vs H Q E h => ?_) (fun f cdv A0 outer s H vs Q E hr h => ?_)
  · obtain ⟨z, p, b, rfl, _⟩ := h
    rfl
  · obtain ⟨z, p, b, rfl, hz, ⟨dx, hb⟩, k⟩ := h
    refine ⟨_, ((pss_one (ps_ret (pe_and (pe_chain op_le op_le pe_int (pe_callB call_len_str (by rfl) T.b_len PySem.boot_len (pa_cons (pv 0) pa_nil)) (pe_fld (pv 1) rfl)) (pe_one (pe_callB (cr_all rfl) (by rfl) T.b_all (by decide +kernel) (pa_cons (pe_lc (own := [("digit", 2)]) (g := gName 2) (tt := tYes) rfl sc_is_length.nd (pi_str (pv 0)) (blkOk_by (N := N_is_length) (sc := defScope s_is_length) (by decide +kernel)) (fun _ _ _ _ _ => pg_name (i := 2) sc_is_length.nd rfl (Or.inl rfl)) (fun _ _ _ _ _ => pts_nil) (fun _ _ _ _ _ => (pe_cmpR op_in_sign (pv 2) (C8.pe_gc rfl T.c_DIGITS) (by rfl)))) pa_nil))))))), ?_⟩
    refine ⟨_, rfl, z, rfl, small (by omega), _, _, rfl, rfl, _, rfl, ?_⟩
    refine ite2 (fun h1 => ?_) (fun h1 => ?_)
    · refine ⟨_, rfl, p, _, dx, _, _, rfl, hb, T.cl_Book, T.n_Book_most_digits, bfs_most_digits b, _, _, rfl, rfl, _, rfl, ?_⟩
      refine ite2 (fun h2 => ?_) (fun h2 => ?_)
      · refine ⟨_, rfl, z, rfl, ?_⟩
        intro D hD
        refine comp_rel hD walk_signs (fun _ _ => trivial) (by rw [signs_len]; omega) (signs_rel z) (fun c => [some (.str z), some (.ref p), some (.str ⟨#[c]⟩)]) (fun _ => true) (fun c => .bl (decide (c ∈ DIGITS.cps.toList)))
          (fun x d H' r hd _ R q => ?_) (fun d _ => ?_) (fun d H' _ _ R q => ?_) (fun d H' hd _ _ R q => ?_) (fun H' e hd => ?_)
        · rw [r]
          exact q
        · rfl
        · exact q H' (Ex.rfl' _)
        · exact ⟨_, rfl, d, _, rfl, rfl, q H' (Ex.rfl' _)⟩
        · refine ⟨D, z.cps.toList.map fun c => decide (c ∈ DIGITS.cps.toList), rfl, SqL.of ?_, ?_⟩
          · rw [hd, filter_true, List.map_map]
            rfl
          · have e1 : ((z.cps.toList.map fun c => decide (c ∈ DIGITS.cps.toList)).all id) = isLen z b.digits := by
              unfold isLen
              rw [h1, h2, List.all_map]
              rfl
            rw [e1]
            exact k H' e
      · have e1 : isLen z b.digits = false := by
          unfold isLen
          rw [Bool.not_eq_true] at h2
          rw [h2, Bool.and_false]
          rfl
        have := k H (Ex.rfl' _)
        rw [e1] at this
        rw [Bool.not_eq_true] at h2
        first
          | exact h2 ▸ this
          | (rw [h2]; exact this)
    · have e1 : isLen z b.digits = false := by
        unfold isLen
        rw [Bool.not_eq_true] at h1
        rw [h1]
        rfl
      have := k H (Ex.rfl' _)
      rw [e1] at this
      exact ⟨_, rfl, iteF this⟩
end
end K32

namespace K32
open PySem PySem.Spec PyProof.Rows L2
section
variable {P : Program} {w : World} {K : PySem.W.Frag} {mg : Str → Option Value} {base : Heap} {A : Adr}
theorem BookAt.mono {H H' : Hp} {p : Addr} {b : Bk} (e : Ex H H') (h : BookAt A H p b) : BookAt A H' p b := by
  obtain ⟨dx, hb⟩ := h
  exact ⟨dx, e _ _ hb⟩
/-! ### frame_error -/
def sp_frame_error : Sp := fun vs H Q _ => ∃ (v : Int) (a p : Addr) (fs : List Fld) (b : Bk), vs = [.int v, .ref a, .ref p] ∧ FT H a fs ∧ OkFs fs ∧ BookAt A H p b ∧ BkOk b ∧ ∀ H', Ex H H' → Q (.str (frameErr v fs b)) H'
abbrev N_frame_error : List Str := ["version", "fields", "book", "items", "item"]
theorem sc_frame_error : FnScope N_frame_error ["version", "fields", "book"] (defScope s_frame_error) := ⟨rfl, rfl, rfl, by decide +kernel, rfl, by decide +kernel, by decide +kernel⟩
theorem h_frame_error (T : Txt K w mg A) : Has CX0 P w K mg base "frame_error" 2 ["version", "fields", "book"] (sp_frame_error (A := A)) := by
  refine has0 (k := 1) T.d_frame_error sc_frame_error (fun _ _ _ _ _ _ us hl => match us, hl with | [_, _, _], _ => rfl) (fun vs H Q E h => ?_) (fun f cdv A0 outer s H vs Q E hr h => ?_)
  · obtain ⟨v, a, p, fs, b, rfl, _⟩ := h
    rfl
  · obtain ⟨v, a, p, fs, b, rfl, hfs, hok, hb, bok, k⟩ := h
    have key : ∀ H1, Ex H H1 → ∀ z, frameErr v fs b = z → Q (.str z) H1 := fun H1 e1 z hz => hz ▸ k H1 e1
    obtain ⟨tB, tailB, hB⟩ : ∃ tB, PSs (cxOf CX0 P w K mg base N_frame_error "frame_error" (defScope s_frame_error) f cdv A0 outer s H E).nox ((defBody s_frame_error).drop 1) tB ∧
        ∀ H1, Ex H H1 → (hasF fs TE_ && (!eqSS (itemsOf fs TE_) ["chunked"] || (decide (v = 0) && !decide (b.old = "accept")))) = false → tB { nx := fun _ H' => Q .non H', rt := Q } [some (.int v), some (.ref a), some (.ref p), none, none] H1 := by
      refine ⟨_, ((pss_cons (ps_if (pt_val (pe_fn (h_has_field T) (hr.mono (by decide)) paN (pa_cons (pv 1) (pa_cons (C8.pe_gc rfl T.c_LENGTH_FIELD) pa_nil)))) (pss_cons (ps_set (i := 3) sc_frame_error.nd rfl (.inl rfl) (pe_fn (h_items_of T) (hr.mono (by decide)) paN (pa_cons (pv 1) (pa_cons (C8.pe_gc rfl T.c_LENGTH_FIELD) pa_nil))))
      (pss_cons (ps_if (PW.pt (pw_or (pt_cmpR (op_eqNil hr.units) (pv 3) (pe_lst pa_nil) (nomark _)) (pw_or1 (pt_not (pt_val (pe_callB (cr_all rfl) (by rfl) T.b_all (by decide +kernel) (pa_cons (pe_lc (own := [("item", 4)]) (g := gName 4) (tt := tYes) rfl sc_frame_error.nd (pi_list (pv 3)) (blkOk_by (N := N_frame_error) (sc := defScope s_frame_error) (by decide +kernel)) (fun _ _ _ _ _ => pg_name (i := 4) sc_frame_error.nd rfl (Or.inl rfl)) (fun _ _ _ _ _ => pts_nil) (fun _ _ _ _ _ => (pe_fn (h_is_length T) (hr.mono (by decide)) paN (pa_cons (pv 4) (pa_cons (pv 2) pa_nil))))) pa_nil))))))) (pss_one (ps_ret pe_str)) pss_nil)
      (pss_cons (ps_if (PW.pt (pw_and (pt_cmpR op_gt (pe_callB call_len_seq (by rfl) T.b_len PySem.boot_len (pa_cons (pv 3) pa_nil)) pe_int (nomark _)) (pw_and1 (PW.pt (pw_or (pt_cmpR op_ne (pe_fld (pv 2) rfl) (C8.pe_gc rfl T.c_EQUAL) (nomark _)) (pw_or1 (pt_cmpR op_gt (pe_callB call_lenI (by rfl) T.b_len PySem.boot_len (pa_cons (pe_isc (ow0 := [("item", 4)]) (g0 := gName 4) (tt0 := tYes) rfl sc_frame_error.nd (pi_list (pv 3)) (blkOk_by (N := N_frame_error) (sc := defScope s_frame_error) (by decide +kernel)) (fun _ _ _ _ _ => pg_name (i := 4) sc_frame_error.nd rfl (Or.inl rfl)) (fun _ _ _ _ _ => pts_nil) (fun _ _ _ _ _ => (pe_callTy call_int_str (by rfl) T.b_int (by decide +kernel) (pa_cons (pv 4) pa_nil)))) pa_nil)) pe_int (nomark _)))))))) (pss_one (ps_ret pe_str)) pss_nil)
      (pss_one (ps_if (PW.pt (pw_and (pt_val (pe_fn (h_has_field T) (hr.mono (by decide)) paN (pa_cons (pv 1) (pa_cons (C8.pe_gc rfl T.c_CODING_FIELD) pa_nil)))) (pw_and1 (pt_cmpR op_eq (pe_fld (pv 2) rfl) (C8.pe_gc rfl T.c_REFUSE) (nomark _))))) (pss_one (ps_ret pe_str)) pss_nil))))) pss_nil)
      (pss_one (ps_ret pe_str)))), fun H1 e1 hc => ?_⟩
      refine ⟨_, rfl, a, _, fs, rfl, hfs.mono (Tk.of e1), hok, fun H2 e2 => ⟨_, rfl, ?_⟩⟩
      refine ite2 (fun t2 => ?_) (fun t2 => ?_)
      · refine ⟨_, rfl, a, _, fs, rfl, hfs.mono (Tk.of (e1.tr e2)), hok, by decide +kernel, fun p2 H3 hp2 e3 hx => ?_⟩
        have e13 := (e1.tr e2).tr e3
        have hb3 := hb.mono e13
        refine ⟨_, rfl, Nat.zero_le _, fun q hq => ?_⟩
        have pq : p2 ≠ q := ne_of_none hx hq
        refine ⟨p2, q, _, rfl, rfl, SqL.of ((upd_ne pq).trans hx), upd_same, _, rfl, ?_⟩
        refine ite2 (fun i1 => ?_) (fun i1 => ?_)
        · refine key _ (e13.tr (Ex.new hq)) _ ?_
          unfold frameErr
          rw [hc, t2, if_neg Bool.false_ne_true, if_pos rfl, if_pos]
          rw [show (itemsOf fs CL_).isEmpty = true by simpa using i1]
          rfl
        · have i1' : (itemsOf fs CL_).isEmpty = false := by simpa using i1
          refine ⟨_, rfl, p2, rfl, ⟨_, SqL.of ((upd_ne pq).trans hx)⟩, ?_⟩
          intro D hD
          have hxq : (upd H3 q (HO.lst [])) p2 = some (.lst ((itemsOf fs CL_).map V.str)) := (upd_ne pq).trans hx
          have nm := items_num (name := CL_) hok
          refine comp_rel (G := fun H => SqL K H p2 ((itemsOf fs CL_).map V.str)) hD walk_list (fun H' e => SqL.of (e _ _ hxq)) (by rw [List.length_map]; omega) (strs_rel _) (fun y => [some (.int v), some (.ref a), some (.ref p), some (.ref p2), some (.str y)]) (fun _ => true) (fun y => .bl (isLen y b.digits))
            (fun x d H' r hd e R q => ?_) (fun d _ => ?_) (fun d H' hd _ R q => ?_) (fun d H' hd _ e R q' => ?_) (fun H4 e4 hd4 => ?_)
          · rw [r]; exact q
          · rfl
          · exact q H' (Ex.rfl' _)
          · have il := items_len hok hd
            exact ⟨_, rfl, _, rfl, d, p, b, rfl, by omega, hb3.mono ((Ex.new hq).tr e), fun H5 e5 => q' H5 e5⟩
          · have e14 := (e13.tr (Ex.new hq)).tr e4
            refine ⟨D, (itemsOf fs CL_).map fun y => isLen y b.digits, rfl, SqL.of ?_, _, rfl, ?_⟩
            · rw [hd4, filter_true, List.map_map]
              rfl
            · have ea : (((itemsOf fs CL_).map fun y => isLen y b.digits).all id) = (itemsOf fs CL_).all fun y => isLen y b.digits := by
                rw [List.all_map]
                rfl
              rw [ea]
              refine ite2 (fun i2 => ?_) (fun i2 => ?_)
              · refine key _ e14 _ ?_
                unfold frameErr
                rw [hc, t2, if_neg Bool.false_ne_true, if_pos rfl, if_pos]
                rw [i2, Bool.or_true]
              · have i2' : ((itemsOf fs CL_).all fun y => isLen y b.digits) = true := by simpa using i2
                have hx4 : H4 p2 = some (.lst ((itemsOf fs CL_).map V.str)) := e4 _ _ hxq
                have low : ((itemsOf fs CL_).isEmpty || !((itemsOf fs CL_).all fun z => isLen z b.digits)) = false := by rw [i1', i2']; rfl
                have eL : ((((itemsOf fs CL_).map V.str).length : Nat) : Int) = ((itemsOf fs CL_).length : Int) := by rw [List.length_map]
                obtain ⟨dx, hbx⟩ := hb.mono e14
                refine ⟨_, rfl, p2, _, rfl, Or.inl (SqL.of hx4), _, _, rfl, rfl, _, rfl, ?_⟩
                rw [eL]
                refine ite2 (fun g1 => ?_) (fun g1 => ?_)
                · refine ⟨_, rfl, p, _, dx, _, _, rfl, hbx, T.cl_Book, T.n_Book_lengths, bfs_lengths b, rfl, _, rfl, ?_⟩
                  rw [dec_vs]
                  refine ite2 (fun g2 => ?_) (fun g2 => ?_)
                  · refine key _ e14 _ ?_
                    unfold frameErr
                    rw [hc, if_neg Bool.false_ne_true, t2, if_pos rfl, low, if_neg Bool.false_ne_true, g1, g2]
                    rfl
                  · rw [Bool.not_eq_true] at g2
                    refine ⟨_, rfl, p2, rfl, ⟨_, SqL.of hx4⟩, ?_⟩
                    intro D2 hD2
                    refine set_rel (G := fun H => SqL K H p2 ((itemsOf fs CL_).map V.str)) hD2 walk_list (fun H' e => SqL.of (e _ _ hx4)) (by rw [List.length_map]; omega) (strs_rel _) (fun y => [some (.int v), some (.ref a), some (.ref p), some (.ref p2), some (.str y)]) numOf
                      (fun x d H' r hd e R q => ?_) (fun d _ => ?_) (fun d H' hd e R q' => ?_) (fun H5 e5 hd5 => ?_)
                    · rw [r]; exact q
                    · rfl
                    · have i2' : ((itemsOf fs CL_).all fun y => isLen y b.digits) = true := by simpa using i2
                      have hl := List.all_eq_true.mp i2' d hd
                      obtain ⟨n1, n2⟩ := isLen_num hl bok.d2
                      have hl2 : d.length ≤ 640 := by
                        unfold isLen at hl
                        simp only [Bool.and_eq_true, decide_eq_true_eq] at hl
                        have := bok.d2
                        omega
                      exact ⟨_, rfl, d, _, rfl, n1, hl2, q' H' (Ex.rfl' _)⟩
                    · have sn := setN_le ((itemsOf fs CL_).map numOf)
                      rw [List.length_map] at sn
                      refine ⟨D2, _, _, rfl, hd5, by omega, _, _, rfl, rfl, _, rfl, ?_⟩
                      refine ite2 (fun g3 => ?_) (fun g3 => ?_)
                      · refine key _ (e14.tr e5) _ ?_
                        unfold frameErr
                        rw [hc, if_neg Bool.false_ne_true, t2, if_pos rfl, low, if_neg Bool.false_ne_true, g1, g2, g3]
                        rfl
                      · have h5 : (decide (1 < ((itemsOf fs CL_).length : Int)) && (!decide (b.lengths = "equal") || decide (1 < ((setN ((itemsOf fs CL_).map numOf)).2 : Int)))) = false := by
                          rw [Bool.not_eq_true] at g3
                          rw [g1, g2, g3]
                          rfl
                        refine ⟨_, rfl, a, TE_, fs, rfl, hfs.mono (Tk.of (e14.tr e5)), hok, fun H6 e6 => ⟨_, rfl, ?_⟩⟩
                        refine ite2 (fun t3 => ?_) (fun t3 => ?_)
                        · obtain ⟨dx6, hb6⟩ := hb.mono ((e14.tr e5).tr e6)
                          refine ⟨_, rfl, p, _, dx6, _, _, rfl, hb6, T.cl_Book, T.n_Book_both, bfs_both b, rfl, _, rfl, ?_⟩
                          rw [dec_vs]
                          refine ite2 (fun t4 => ?_) (fun t4 => ?_)
                          · refine key _ ((e14.tr e5).tr e6) _ ?_
                            unfold frameErr
                            rw [hc, if_neg Bool.false_ne_true, t2, if_pos rfl, low, if_neg Bool.false_ne_true, h5, if_neg Bool.false_ne_true, t3, t4]
                            rfl
                          · refine key _ ((e14.tr e5).tr e6) _ ?_
                            rw [Bool.not_eq_true] at t4
                            unfold frameErr
                            rw [hc, if_neg Bool.false_ne_true, t2, if_pos rfl, low, if_neg Bool.false_ne_true, h5, if_neg Bool.false_ne_true, t3, t4]
                            rfl
                        · refine key _ ((e14.tr e5).tr e6) _ ?_
                          rw [Bool.not_eq_true] at t3
                          unfold frameErr
                          rw [hc, if_neg Bool.false_ne_true, t2, if_pos rfl, low, if_neg Bool.false_ne_true, h5, if_neg Bool.false_ne_true, t3]
                          rfl
                · have h5 : (decide (1 < ((itemsOf fs CL_).length : Int)) && (!decide (b.lengths = "equal") || decide (1 < ((setN ((itemsOf fs CL_).map numOf)).2 : Int)))) = false := by
                    rw [Bool.not_eq_true] at g1
                    rw [g1]
                    rfl
                  refine ⟨_, rfl, a, TE_, fs, rfl, hfs.mono (Tk.of (e14)), hok, fun H6 e6 => ⟨_, rfl, ?_⟩⟩
                  refine ite2 (fun t3 => ?_) (fun t3 => ?_)
                  · obtain ⟨dx6, hb6⟩ := hb.mono ((e14).tr e6)
                    refine ⟨_, rfl, p, _, dx6, _, _, rfl, hb6, T.cl_Book, T.n_Book_both, bfs_both b, rfl, _, rfl, ?_⟩
                    rw [dec_vs]
                    refine ite2 (fun t4 => ?_) (fun t4 => ?_)
                    · refine key _ ((e14).tr e6) _ ?_
                      unfold frameErr
                      rw [hc, if_neg Bool.false_ne_true, t2, if_pos rfl, low, if_neg Bool.false_ne_true, h5, if_neg Bool.false_ne_true, t3, t4]
                      rfl
                    · refine key _ ((e14).tr e6) _ ?_
                      rw [Bool.not_eq_true] at t4
                      unfold frameErr
                      rw [hc, if_neg Bool.false_ne_true, t2, if_pos rfl, low, if_neg Bool.false_ne_true, h5, if_neg Bool.false_ne_true, t3, t4]
                      rfl
                  · refine key _ ((e14).tr e6) _ ?_
                    rw [Bool.not_eq_true] at t3
                    unfold frameErr
                    rw [hc, if_neg Bool.false_ne_true, t2, if_pos rfl, low, if_neg Bool.false_ne_true, h5, if_neg Bool.false_ne_true, t3]
                    rfl
      · refine key _ (e1.tr e2) _ ?_
        unfold frameErr
        rw [hc, if_neg Bool.false_ne_true, if_neg t2]
    refine ⟨_, ((pss_cons (ps_if (pt_val (pe_fn (h_has_field T) (hr.mono (by decide)) paN (pa_cons (pv 1) (pa_cons (C8.pe_gc rfl T.c_CODING_FIELD) pa_nil)))) (pss_one (ps_if (PW.pt (pw_or (pt_cmpR (op_neStrs hr.units) (pe_fn (h_items_of T) (hr.mono (by decide)) paN (pa_cons (pv 1) (pa_cons (C8.pe_gc rfl T.c_CODING_FIELD) pa_nil))) (pe_lst (pa_cons (C8.pe_gc rfl T.c_CHUNKED_frames) pa_nil)) (nomark _)) (pw_or1 (PW.pt (pw_and (pt_cmpR op_eq (pv 0) pe_int (nomark _)) (pw_and1 (pt_cmpR op_ne (pe_fld (pv 2) rfl) (C8.pe_gc rfl T.c_ACCEPT) (nomark _)))))))) (pss_one (ps_ret pe_str)) pss_nil)) pss_nil)
      tailB)), ?_⟩
    refine ⟨_, rfl, a, TE_, fs, rfl, hfs, hok, fun H1 e1 => ⟨_, rfl, ?_⟩⟩
    refine ite2 (fun t1 => ?_) (fun t1 => ?_)
    · refine ⟨_, rfl, a, TE_, fs, rfl, hfs.mono (Tk.of e1), hok, by decide +kernel, fun p2 H2 hp2 e2 hx => ?_⟩
      refine ⟨by show 1 ≤ sizeLine; decide, fun q hq => ?_⟩
      have pq : p2 ≠ q := ne_of_none hx hq
      refine ⟨p2, q, itemsOf fs TE_, ["chunked"], rfl, rfl, SqL.of ((upd_ne pq).trans hx), SqL.of upd_same, _, rfl, ?_⟩
      have e3 := (e1.tr e2).tr (Ex.new (o := .lst [.str "chunked"]) hq)
      refine ite2 (fun c1 => ?_) (fun c1 => ?_)
      · refine key _ e3 _ ?_
        unfold frameErr
        have c1' : (!eqSS (itemsOf fs TE_) ["chunked"]) = true := c1
        rw [t1, c1']
        rfl
      · have c1' : (!eqSS (itemsOf fs TE_) ["chunked"]) = false := by
          rw [Bool.not_eq_true] at c1
          exact c1
        refine ⟨_, rfl, rfl, _, rfl, ?_⟩
        rw [dec_vi]
        refine ite2 (fun c2 => ?_) (fun c2 => ?_)
        · obtain ⟨dx, hbx⟩ := hb.mono e3
          refine ⟨_, rfl, p, _, dx, _, _, rfl, hbx, T.cl_Book, T.n_Book_old_chunked, bfs_old_chunked b, rfl, _, rfl, ?_⟩
          rw [dec_vs]
          refine ite2 (fun c3 => ?_) (fun c3 => ?_)
          · refine key _ e3 _ ?_
            unfold frameErr
            rw [t1, c1', c2, c3]
            rfl
          · refine hB _ e3 ?_
            rw [Bool.not_eq_true] at c3
            rw [t1, c1', c2, c3]
            rfl
        · refine hB _ e3 ?_
          rw [Bool.not_eq_true] at c2
          rw [t1, c1', c2]
          rfl
    · refine hB _ e1 ?_
      rw [Bool.not_eq_true] at t1
      rw [t1]
      rfl
end
end K32

namespace K32
open PySem PySem.Spec PyProof.Rows L2
section
variable {P : Program} {w : World} {K : PySem.W.Frag} {mg : Str → Option Value} {base : Heap} {A : Adr}
/-! ### lines: mirrors -/
def inD (c : Nat) : Bool := decide (c ∈ DIGITS.cps.toList)
def form3 (z : Str) : Bool :=
  match z.cps.toList with
  | [a, b, c] => inD a && (decide ((⟨#[b]⟩ : Str) = ".") && inD c)
  | _ => false
def vForm (z : Str) : Bool := decide (cutS z none (some 5) = "HTTP/") && form3 (cutS z (some 5) none)
theorem len3 {z : Str} (h : z.length = 3) : ∃ a b c, z.cps.toList = [a, b, c] := by
  have e : z.cps.toList.length = 3 := by rw [Array.length_toList]; exact h
  match q : z.cps.toList, e with
  | [a, b, c], _ => exact ⟨a, b, c, rfl⟩
theorem form3_not {z : Str} (h : z.length ≠ 3) : form3 z = false := by
  unfold form3
  split
  · rename_i a b c q
    have e : z.cps.toList.length = z.length := Array.length_toList
    rw [q] at e
    exact absurd e.symm h
  · rfl
theorem isSt_not {z : Str} (h : z.length ≠ 3) : (match z.cps.toList with
  | [a, b, c] => decide (a ∈ ("12345" : Str).cps.toList) && (inD b && inD c)
  | _ => false) = false := by
  split
  · rename_i a b c q
    have e : z.cps.toList.length = z.length := Array.length_toList
    rw [q] at e
    exact absurd e.symm h
  · rfl
def vOf (z : Str) : Except Str Int := if z = "HTTP/1.0" then .ok 0 else if z = "HTTP/1.1" then .ok 1 else .error (if vForm z then "version" else "start")
def mReq (z : Str) : Except Str (Str × Str × Int) :=
  match Txt.split z " " with
  | [a, b, c] => if isTok a && !decide (b = "") then (match vOf c with | .ok v => .ok (a, b, v) | .error e => .error e) else .error "start"
  | _ => .error "start"
def isSt (z : Str) : Bool :=
  match z.cps.toList with
  | [a, b, c] => decide (a ∈ ("12345" : Str).cps.toList) && (inD b && inD c)
  | _ => false
def mSta (z : Str) : Except Str (Int × Str × Int) :=
  if decide ((Txt.partition (Txt.partition z " ").2.2 " ").2.1 = "") || !isSt (Txt.partition (Txt.partition z " ").2.2 " ").1 then .error "start"
  else match vOf (Txt.partition z " ").1 with
    | .ok v => .ok (numOf (Txt.partition (Txt.partition z " ").2.2 " ").1, Txt.stripChars (Txt.partition (Txt.partition z " ").2.2 " ").2.2 " ", v)
    | .error e => .error e
abbrev HEXS : Str := "0123456789abcdef"
def hexB (z : Str) : Bool := (decide (1 ≤ (z.length : Int)) && decide ((z.length : Int) ≤ 6)) && z.cps.toList.all fun c => decide (c ∈ HEXS.cps.toList)
def mSize (z : Str) : Except Str Int :=
  if hexB (Txt.lower (Txt.partition z ";").1) then .ok ((Hx.hexNum (Txt.lower (Txt.partition z ";").1).cps.toList : Nat) : Int) else .error "chunk"
theorem hex_is {c : Nat} (h : decide (c ∈ HEXS.cps.toList) = true) : Hx.IsHex c := by
  have e : HEXS.cps.toList = [48, 49, 50, 51, 52, 53, 54, 55, 56, 57, 97, 98, 99, 100, 101, 102] := by decide +kernel
  rw [decide_eq_true_eq, e] at h
  unfold Hx.IsHex
  simp only [List.mem_cons, List.not_mem_nil, or_false] at h
  omega
/-! ### has_version_form -/
def sp_has_version_form : Sp := fun vs H Q _ => ∃ z : Str, vs = [.str z] ∧ z.length ≤ 300 ∧ Q (.bl (vForm z)) H
abbrev N_has_version_form : List Str := ["word", "head", "digits"]
theorem sc_has_version_form : FnScope N_has_version_form ["word"] (defScope s_has_version_form) := ⟨rfl, rfl, rfl, by decide +kernel, rfl, by decide +kernel, by decide +kernel⟩
theorem h_has_version_form (T : Txt K w mg A) : Has CX0 P w K mg base "has_version_form" 1 ["word"] sp_has_version_form := by
  refine has0 (k := 0) T.d_has_version_form sc_has_version_form (fun _ _ _ _ _ _ us hl => match us, hl with | [_], _ => rfl) (fun vs H Q E h => ?_) (fun f cdv A0 outer s H vs Q E hr h => ?_)
  · obtain ⟨z, rfl, _⟩ := h
    rfl
  · obtain ⟨z, rfl, hz, k⟩ := h
    refine ⟨_, ((pss_cons (ps_par (i := 1) (j := 2) (by rfl) sc_has_version_form.nd rfl rfl (by decide) rfl rfl (pa_cons (pe_slice sl_str (pv 0) po_none (po_some pe_int)) (pa_cons (pe_slice sl_str (pv 0) (po_some pe_int) po_none) pa_nil)) (by rfl))
      (pss_one (ps_ret (pe_and (pe_cmpR op_eq (pv 1) pe_str (nomark _)) (pe_and (pe_cmpR op_eq (pe_callB call_len_str (by rfl) T.b_len PySem.boot_len (pa_cons (pv 2) pa_nil)) pe_int (nomark _)) (pe_and (pe_cmpR op_in_sign (pe_ix ix_str (pv 2) pe_int (fun _ _ => rfl)) (C8.pe_gc rfl T.c_DIGITS) (by rfl)) (pe_and (pe_cmpR op_eq (pe_ix ix_str (pv 2) pe_int (fun _ _ => rfl)) pe_str (nomark _)) (pe_one (pe_cmpR op_in_sign (pe_ix ix_str (pv 2) pe_int (fun _ _ => rfl)) (C8.pe_gc rfl T.c_DIGITS) (by rfl))))))))))), ?_⟩
    have l1 := cutS_length z none (some 5)
    have l2 := cutS_length z (some 5) none
    refine ⟨_, rfl, _, rfl, z, rfl, small (by omega), _, rfl, _, rfl, z, rfl, small (by omega), _, _, rfl, ?_⟩
    have fals : vForm z = false → Q (.bl false) H := fun e => e ▸ k
    refine ⟨_, rfl, rfl, _, rfl, ?_⟩
    rw [dec_vs]
    refine ite2 (fun h1 => ?_) (fun h1 => ?_)
    · refine ⟨_, rfl, _, rfl, small (by omega), rfl, _, rfl, ?_⟩
      rw [dec_vi]
      refine ite2 (fun h2 => ?_) (fun h2 => ?_)
      · obtain ⟨a, b, c, e⟩ := len3 (z := cutS z (some 5) none) (by have := of_decide_eq_true h2; omega)
        refine ⟨_, rfl, _, _, a, rfl, rfl, small (by omega), (by rw [e]; rfl), a, _, rfl, rfl, _, rfl, ?_⟩
        have e0 : vForm z = (inD a && (decide ((⟨#[b]⟩ : Str) = ".") && inD c)) := by
          unfold vForm form3
          rw [h1, e]
          rfl
        refine ite2 (fun h3 => ?_) (fun h3 => ?_)
        · have h3' : inD a = true := h3
          refine ⟨_, rfl, _, _, b, rfl, rfl, small (by omega), (by rw [e]; rfl), rfl, _, rfl, ?_⟩
          rw [dec_vs]
          refine ite2 (fun h4 => ?_) (fun h4 => ?_)
          · refine ⟨_, rfl, _, _, c, rfl, rfl, small (by omega), (by rw [e]; rfl), c, _, rfl, rfl, ?_⟩
            rw [h3', h4] at e0
            rw [e0] at k
            exact k
          · rw [Bool.not_eq_true] at h4
            refine fals ?_
            rw [e0, h4, h3']
            rfl
        · rw [Bool.not_eq_true] at h3
          have h3' : inD a = false := h3
          refine fals ?_
          rw [e0, h3']
          rfl
      · refine fals ?_
        unfold vForm
        rw [form3_not, Bool.and_false]
        intro q
        exact h2 (decide_eq_true (by rw [q]; rfl))
    · rw [Bool.not_eq_true] at h1
      refine fals ?_
      unfold vForm
      rw [h1]
      rfl
/-! ### version_of -/
def sp_version_of : Sp := fun vs H Q E => ∃ z : Str, vs = [.str z] ∧ z.length ≤ 300 ∧ (∀ v, vOf z = .ok v → Q (.int v) H) ∧ (∀ k, vOf z = .error k → ErrP A.BL k H E)
abbrev N_version_of : List Str := ["word"]
theorem sc_version_of : FnScope N_version_of ["word"] (defScope s_version_of) := ⟨rfl, rfl, rfl, by decide +kernel, rfl, by decide +kernel, by decide +kernel⟩
theorem h_version_of (T : Txt K w mg A) : Has (L2N.CX P w) P w K mg base "version_of" 3 ["word"] (sp_version_of (A := A)) := by
  refine hasX (k := 2) T.d_version_of sc_version_of (fun _ _ _ _ _ _ us hl => match us, hl with | [_], _ => rfl) (fun vs H Q E h => ?_) (fun f cdv A0 outer s H vs Q E hr tkB h => ?_)
  · obtain ⟨z, rfl, _⟩ := h
    rfl
  · obtain ⟨z, rfl, hz, k1, k2⟩ := h
    obtain ⟨es, n, VK⟩ := T.t_VERSIONS
    refine ⟨_, ((pss_cons (ps_if (pt_cmpR (op_in_kd VK) (pv 0) (pe_glob rfl (v := .ref A.VE) T.c_VERSIONS rfl) (by rfl)) (pss_one (ps_ret (pe_ix ix_kdict (pe_glob rfl (v := .ref A.VE) T.c_VERSIONS rfl) (pv 0) (fun _ _ => rfl)))) pss_nil)
      (pss_one (ps_raiseK (hx_BadLine T) (hr.mono (by decide)) rfl tkB (pe_ifExp (pt_val (pe_fn (h_has_version_form T) (hr.mono (by decide)) paN (pa_cons (pv 0) pa_nil))) pe_str pe_str))))), ?_⟩
    by_cases z0 : z = "HTTP/1.0"
    · obtain ⟨u, hu, ru⟩ := T.v0
      have hu' : PySem.W.nsIn K A.VE z = some (some u) := by rw [z0]; exact hu
      refine ⟨_, rfl, z, _, rfl, rfl, hu', _, rfl, iteT ?_⟩
      exact ⟨_, rfl, A.VE, z, .int 0, rfl, rfl, ⟨es, n, u, VK.at_, VK.lit, hu', ru⟩, k1 0 (by unfold vOf; rw [if_pos z0])⟩
    · by_cases z1 : z = "HTTP/1.1"
      · obtain ⟨u, hu, ru⟩ := T.v1
        have hu' : PySem.W.nsIn K A.VE z = some (some u) := by rw [z1]; exact hu
        refine ⟨_, rfl, z, _, rfl, rfl, hu', _, rfl, iteT ?_⟩
        exact ⟨_, rfl, A.VE, z, .int 1, rfl, rfl, ⟨es, n, u, VK.at_, VK.lit, hu', ru⟩, k1 1 (by unfold vOf; rw [if_neg z0, if_pos z1])⟩
      · refine ⟨_, rfl, z, _, rfl, rfl, T.vn z z0 z1, _, rfl, iteF ?_⟩
        refine ⟨_, rfl, z, rfl, hz, _, rfl, ?_⟩
        have eo : vOf z = .error (if vForm z then "version" else "start") := by
          unfold vOf
          rw [if_neg z0, if_neg z1]
        refine ite2 (fun f1 => ?_) (fun f1 => ?_)
        · refine ⟨_, rfl, by decide +kernel, ?_⟩
          rw [f1] at eo
          exact (k2 _ eo).self
        · refine ⟨_, rfl, by decide +kernel, ?_⟩
          rw [Bool.not_eq_true] at f1
          rw [f1] at eo
          exact (k2 _ eo).self
/-! ### read_request -/
def sp_read_request : Sp := fun vs H Q E => ∃ z : Str, vs = [.str z] ∧ okS z ∧ z.length ≤ 300 ∧ (∀ a b v t H', mReq z = .ok (a, b, v) → H t = none → Ex H H' → H' t = some (.tup [.str a, .str b, .int v]) → Q (.ref t) H') ∧ (∀ k, mReq z = .error k → ErrP A.BL k H E)
abbrev N_read_request : List Str := ["line", "words"]
theorem sc_read_request : FnScope N_read_request ["line"] (defScope s_read_request) := ⟨rfl, rfl, rfl, by decide +kernel, rfl, by decide +kernel, by decide +kernel⟩
theorem h_read_request (T : Txt K w mg A) : Has (L2N.CX P w) P w K mg base "read_request" 4 ["line"] (sp_read_request (A := A)) := by
  refine hasX (k := 3) T.d_read_request sc_read_request (fun _ _ _ _ _ _ us hl => match us, hl with | [_], _ => rfl) (fun vs H Q E h => ?_) (fun f cdv A0 outer s H vs Q E hr tkB h => ?_)
  · obtain ⟨z, rfl, _⟩ := h
    rfl
  · obtain ⟨z, rfl, hok, hz, k1, k2⟩ := h
    refine ⟨_, ((pss_cons (ps_if (pt_not (pt_val (pe_fn (h_is_string T) (hr.mono (by decide)) paN (pa_cons (pv 0) pa_nil)))) (pss_one (ps_raiseK (hx_BadLine T) (hr.mono (by decide)) rfl tkB pe_str)) pss_nil)
      (pss_cons (ps_set (i := 1) sc_read_request.nd rfl (.inl rfl) (pe_split (pv 0) pe_str))
      (pss_cons (ps_if (PW.pt (pw_or (pt_cmpR op_ne (pe_callB call_len_seq (by rfl) T.b_len PySem.boot_len (pa_cons (pv 1) pa_nil)) pe_int (nomark _)) (pw_or (pt_not (pt_val (pe_fn (h_is_token T) (hr.mono (by decide)) paN (pa_cons (pe_ix ix_list (pv 1) pe_int (fun _ _ => rfl)) pa_nil)))) (pw_or1 (pt_cmpR op_eq (pe_ix ix_list (pv 1) pe_int (fun _ _ => rfl)) pe_str (nomark _)))))) (pss_one (ps_raiseK (hx_BadLine T) (hr.mono (by decide)) rfl tkB pe_str)) pss_nil)
      (pss_one (ps_ret (pe_tup (pa_cons (pe_ix ix_list (pv 1) pe_int (fun _ _ => rfl)) (pa_cons (pe_ix ix_list (pv 1) pe_int (fun _ _ => rfl)) (pa_cons (pe_fn (h_version_of T) (hr.mono (by decide)) (fun σ => L2N.passAt tkB σ) (pa_cons (pe_ix ix_list (pv 1) pe_int (fun _ _ => rfl)) pa_nil)) pa_nil)))))))))), ?_⟩
    refine ⟨_, rfl, z, rfl, hok, hz, fun H1 e1 => ⟨true, rfl, iteF ?_⟩⟩
    refine ⟨_, rfl, ⟨_, rfl⟩, z, " ", rfl, rfl, by decide +kernel, small (by omega), fun p hp => ?_⟩
    have bad : mReq z = .error "start" → ∀ H2, Ex H1 H2 → ∃ z_1, V.str "start" = V.str z_1 ∧ z_1.length ≤ 100 ∧ ∀ d H3, H2 d = none → Evl.Ex H2 H3 → H3 d = some (.xd [(("kind" : Str), .str z_1)]) → E (.ref A.BL) (some d) H3 :=
      fun e H2 e2 => ⟨_, rfl, by decide +kernel, ((k2 _ e).of (e1.tr e2)).self⟩
    have ep : upd H1 p (.lst ((Txt.split z " ").map V.str)) p = some (.lst ((Txt.split z " ").map V.str)) := upd_same
    refine ⟨_, rfl, p, _, rfl, Or.inl (SqL.of upd_same), rfl, _, rfl, ?_⟩
    rw [dec_vi, List.length_map]
    have ls : ∀ y ∈ Txt.split z " ", y.length ≤ 300 := fun y hy => Nat.le_trans (split_len sep_blank hy) hz
    refine ite2 (fun h1 => ?_) (fun h1 => ?_)
    · refine bad ?_ _ (Ex.new hp)
      unfold mReq
      split
      · rename_i a b c q
        rw [q] at h1
        exact absurd h1 (by simp)
      · rfl
    · have h1' : (Txt.split z " ").length = 3 := by
        rw [Bool.not_eq_true] at h1
        have : decide (((Txt.split z " ").length : Int) = 3) = true := by simpa using h1
        have := of_decide_eq_true this
        omega
      match q : Txt.split z " ", h1' with
      | [a, b, c], _ =>
        rw [q] at ep ls
        have la := ls a (by simp)
        have lb := ls b (by simp)
        have lc := ls c (by simp)
        refine ⟨_, rfl, p, _, _, _, rfl, rfl, SqL.of upd_same, rfl, a, rfl, la, fun H2 e2 => ⟨_, rfl, ?_⟩⟩
        have ep2 := e2 _ _ ep
        have e12 := (Ex.new hp).tr e2
        refine ite2 (fun h2 => ?_) (fun h2 => ?_)
        · refine bad ?_ _ e12
          unfold mReq
          rw [q]
          have h2' : isTok a = false := by simpa using h2
          show (if isTok a && !decide (b = "") then _ else _) = _
          rw [h2']
          rfl
        · have h2' : isTok a = true := by simpa using h2
          refine ⟨_, rfl, p, _, _, _, rfl, rfl, SqL.of ep2, rfl, rfl, _, rfl, ?_⟩
          rw [dec_vs]
          refine ite2 (fun h3 => ?_) (fun h3 => ?_)
          · refine bad ?_ _ e12
            unfold mReq
            rw [q]
            show (if isTok a && !decide (b = "") then _ else _) = _
            rw [h2', h3]
            rfl
          · rw [Bool.not_eq_true] at h3
            have em : mReq z = (match vOf c with | .ok v => .ok (a, b, v) | .error e => .error e) := by
              unfold mReq
              rw [q]
              show (if isTok a && !decide (b = "") then _ else _) = _
              rw [h2', h3]
              rfl
            refine ⟨_, rfl, p, _, _, _, rfl, rfl, SqL.of ep2, rfl, _, rfl, p, _, _, _, rfl, rfl, SqL.of ep2, rfl, _, rfl, p, _, _, _, rfl, rfl, SqL.of ep2, rfl, c, rfl, lc, fun v hv => ?_, fun kk hk => ?_⟩
            · refine ⟨by show 3 ≤ sizeLine; decide, fun t ht => ?_⟩
              exact k1 a b v t _ (by rw [em, hv]) ((e1.tr e12).free ht) ((e1.tr e12).tr (Ex.new ht)) upd_same
            · exact (k2 kk (by rw [em, hk])).of (e1.tr e12)
end
end K32

namespace K32
open PySem PySem.Spec PyProof.Rows L2
section
variable {P : Program} {w : World} {K : PySem.W.Frag} {mg : Str → Option Value} {base : Heap} {A : Adr}
/-! ### book_of -/
def sp_book_of : Sp := fun vs H Q _ => ∃ (p : Addr) (b : Bk), vs = [.ref p] ∧ BookAt A H p b ∧ Q (.ref p) H
abbrev N_book_of : List Str := ["book"]
theorem sc_book_of : FnScope N_book_of ["book"] (defScope s_book_of) := ⟨rfl, rfl, rfl, by decide +kernel, rfl, by decide +kernel, by decide +kernel⟩
theorem h_book_of (T : Txt K w mg A) : Has CX0 P w K mg base "book_of" 1 ["book"] (sp_book_of (A := A)) := by
  refine has0 (k := 0) T.d_book_of sc_book_of (fun _ _ _ _ _ _ us hl => match us, hl with | [_], _ => rfl) (fun vs H Q E h => ?_) (fun f cdv A0 outer s H vs Q E hr h => ?_)
  · obtain ⟨p, b, rfl, _⟩ := h
    rfl
  · obtain ⟨p, b, rfl, ⟨dx, hb⟩, k⟩ := h
    refine ⟨_, ((pss_cons (ps_if (pt_cmpR op_isN (pv 0) pe_non (nomark _)) (pss_one ps_never) pss_nil)
      (pss_cons (ps_if (pt_not (pt_val (pe_callB (C8.call_isC T.is_Book) (by rfl) T.b_isinstance (by decide +kernel) (pa_cons (pv 0) (pa_cons (pe_glob (v := .ref A.BK) rfl T.g_Book rfl) pa_nil))))) (pss_one ps_never) pss_nil)
      (pss_one (ps_ret (pv 0)))))), ?_⟩
    refine ⟨_, rfl, rfl, _, rfl, iteF ?_⟩
    exact ⟨_, rfl, p, dx, _, rfl, hb, _, rfl, iteF ⟨_, rfl, k⟩⟩
/-! ### plain_frame -/
def FrP (A : Adr) (r : Except Str Fr) (H : Hp) (Q : L2.VK) (E : XK) : Prop := (∀ fr t H', r = .ok fr → H t = none → Ex H H' → H' t = some (.tup fr.v) → Q (.ref t) H') ∧ (∀ k, r = .error k → ErrP A.BF k H E)
def sp_plain_frame : Sp := fun vs H Q E => ∃ (v : Int) (a p : Addr) (fs : List Fld) (b : Bk), vs = [.int v, .ref a, .ref p] ∧ FT H a fs ∧ OkFs fs ∧ BookAt A H p b ∧ BkOk b ∧
  (frameErr v fs b = "" → plainFr fs = none → ∀ H', Ex H H' → Q .non H') ∧ (∀ fr t H', frameErr v fs b = "" → plainFr fs = some fr → H t = none → Ex H H' → H' t = some (.tup fr.v) → Q (.ref t) H') ∧ (∀ k, frameErr v fs b = k → k ≠ "" → ErrP A.BF k H E)
abbrev N_plain_frame : List Str := ["version", "fields", "book", "error"]
theorem sc_plain_frame : FnScope N_plain_frame ["version", "fields", "book"] (defScope s_plain_frame) := ⟨rfl, rfl, rfl, by decide +kernel, rfl, by decide +kernel, by decide +kernel⟩
theorem h_plain_frame (T : Txt K w mg A) : Has (L2N.CX P w) P w K mg base "plain_frame" 3 ["version", "fields", "book"] (sp_plain_frame (A := A)) := by
  refine hasX (k := 2) T.d_plain_frame sc_plain_frame (fun _ _ _ _ _ _ us hl => match us, hl with | [_, _, _], _ => rfl) (fun vs H Q E h => ?_) (fun f cdv A0 outer s H vs Q E hr tkB h => ?_)
  · obtain ⟨v, a, p, fs, b, rfl, _⟩ := h
    rfl
  · obtain ⟨v, a, p, fs, b, rfl, hfs, hok, hb, bok, k0, k1, k2⟩ := h
    refine ⟨_, ((pss_cons (ps_set (i := 3) sc_plain_frame.nd rfl (.inl rfl) (pe_fn (h_frame_error T) (hr.mono (by decide)) paN (pa_cons (pv 0) (pa_cons (pv 1) (pa_cons (pv 2) pa_nil)))))
      (pss_cons (ps_if (pt_cmpR op_ne (pv 3) pe_str (nomark _)) (pss_one (ps_raiseK (hx_BadFrame T) (hr.mono (by decide)) rfl tkB (pv 3))) pss_nil)
      (pss_cons (ps_if (pt_val (pe_fn (h_has_field T) (hr.mono (by decide)) paN (pa_cons (pv 1) (pa_cons (C8.pe_gc rfl T.c_CODING_FIELD) pa_nil)))) (pss_one (ps_ret (pe_tup (pa_cons (C8.pe_gc rfl T.c_CHUNKED_frames) pa_nil)))) pss_nil)
      (pss_cons (ps_if (pt_val (pe_fn (h_has_field T) (hr.mono (by decide)) paN (pa_cons (pv 1) (pa_cons (C8.pe_gc rfl T.c_LENGTH_FIELD) pa_nil)))) (pss_one (ps_ret (pe_tup (pa_cons (C8.pe_gc rfl T.c_LENGTH_frames) (pa_cons (pe_callTy call_int_str (by rfl) T.b_int (by decide +kernel) (pa_cons (pe_ix ix_list (pe_fn (h_items_of T) (hr.mono (by decide)) paN (pa_cons (pv 1) (pa_cons (C8.pe_gc rfl T.c_LENGTH_FIELD) pa_nil))) pe_int (fun _ _ => rfl)) pa_nil)) pa_nil))))) pss_nil)
      (pss_one (ps_ret pe_non))))))), ?_⟩
    refine ⟨_, rfl, _, rfl, _, rfl, v, a, p, fs, b, rfl, hfs, hok, hb, bok, fun H1 e1 => ?_⟩
    refine ⟨_, rfl, rfl, _, rfl, ?_⟩
    rw [dec_vs]
    refine ite2 (fun h1 => ?_) (fun h1 => ?_)
    · have h1' : frameErr v fs b ≠ "" := by simpa using h1
      exact ⟨_, rfl, _, rfl, frameErr_len v fs b, ((k2 _ rfl h1').of e1).self⟩
    · have h1' : frameErr v fs b = "" := by simpa using h1
      refine ⟨_, rfl, a, TE_, fs, rfl, hfs.mono (Tk.of e1), hok, fun H2 e2 => ⟨_, rfl, ?_⟩⟩
      have e12 := e1.tr e2
      refine ite2 (fun t1 => ?_) (fun t1 => ?_)
      · refine ⟨by show 1 ≤ sizeLine; decide, fun t ht => ?_⟩
        exact k1 .chunked t _ h1' (by unfold plainFr; rw [t1, if_pos rfl]) (e12.free ht) (e12.tr (Ex.new ht)) upd_same
      · rw [Bool.not_eq_true] at t1
        refine ⟨_, rfl, a, CL_, fs, rfl, hfs.mono (Tk.of e12), hok, fun H3 e3 => ⟨_, rfl, ?_⟩⟩
        have e13 := e12.tr e3
        refine ite2 (fun t2 => ?_) (fun t2 => ?_)
        · obtain ⟨z, r, q, n1, n0, nl⟩ := frame_ok h1' t2 bok
          refine ⟨_, rfl, a, CL_, fs, rfl, hfs.mono (Tk.of e13), hok, by decide +kernel, fun p4 H4 hp4 e4 hx => ?_⟩
          rw [q] at hx
          refine ⟨p4, _, _, _, rfl, rfl, SqL.of hx, (atI_nat (xs := (z :: r).map V.str) (j := 0) (v := V.str z) rfl), z, _, rfl, n1, by omega, ?_⟩
          refine ⟨by show 2 ≤ sizeLine; decide, fun t ht => ?_⟩
          have e14 := e13.tr e4
          exact k1 (.len (numOf z)) t _ h1' (by unfold plainFr; rw [t1, t2, q]; rfl) (e14.free ht) (e14.tr (Ex.new ht)) upd_same
        · rw [Bool.not_eq_true] at t2
          exact k0 h1' (by unfold plainFr; rw [t1, t2]; rfl) H3 e13
/-! ### request_frame, response_frame -/
def sp_request_frame : Sp := fun vs H Q E => ∃ (v : Int) (a p : Addr) (fs : List Fld) (b : Bk), vs = [.int v, .ref a, .ref p] ∧ FT H a fs ∧ OkFs fs ∧ BookAt A H p b ∧ BkOk b ∧ FrP A (reqFr v fs b) H Q E
abbrev N_request_frame : List Str := ["version", "fields", "book", "frame"]
theorem sc_request_frame : FnScope N_request_frame ["version", "fields", "book"] (defScope s_request_frame) := ⟨rfl, rfl, rfl, by decide +kernel, rfl, by decide +kernel, by decide +kernel⟩
theorem h_request_frame (T : Txt K w mg A) : HasK (L2N.CX P w) P w K mg base "request_frame" 4 2 ["book"] (sp_request_frame (A := A)) := by
  refine hasKX (k := 3) T.d_request_frame (by simp) sc_request_frame (fun _ _ _ _ _ _ us ws hl hw => match us, hl, ws, hw with | [_, _], _, [_], _ => rfl) (fun vs H Q E h => ?_) (fun f cdv A0 outer s H vs Q E hr tkB h => ?_)
  · obtain ⟨v, a, p, fs, b, rfl, _⟩ := h
    rfl
  · obtain ⟨v, a, p, fs, b, rfl, hfs, hok, hb, bok, k1, k2⟩ := h
    refine ⟨_, ((pss_cons (ps_set (i := 3) sc_request_frame.nd rfl (.inl rfl) (pe_fn (h_plain_frame T) (hr.mono (by decide)) (fun σ => L2N.passAt tkB σ) (pa_cons (pv 0) (pa_cons (pv 1) (pa_cons (pe_fn (h_book_of T) (hr.mono (by decide)) paN (pa_cons (pv 2) pa_nil)) pa_nil)))))
      (pss_one (ps_ret (pe_ifExp (pt_cmpR op_isN (pv 3) pe_non (nomark _)) (pe_tup (pa_cons (C8.pe_gc rfl T.c_LENGTH_frames) (pa_cons pe_int pa_nil))) (pv 3)))))), ?_⟩
    refine ⟨_, rfl, _, rfl, _, rfl, p, b, rfl, hb, v, a, p, fs, b, rfl, hfs, hok, hb, bok, fun h0 hn H1 e1 => ?_, fun fr t H1 h0 hs ht e1 hx => ?_, fun kk h0 hne => ?_⟩
    · refine ⟨_, rfl, rfl, _, rfl, iteT ⟨by show 2 ≤ sizeLine; decide, fun t ht => ?_⟩⟩
      exact k1 (.len 0) t _ (by unfold reqFr; rw [if_pos h0, hn]; rfl) (e1.free ht) (e1.tr (Ex.new ht)) upd_same
    · refine ⟨_, rfl, rfl, _, rfl, iteF ⟨_, rfl, ?_⟩⟩
      exact k1 fr t _ (by unfold reqFr; rw [if_pos h0, hs]; rfl) ht e1 hx
    · exact k2 kk (by unfold reqFr; rw [if_neg (by rw [h0]; exact hne), h0])
def sp_response_frame : Sp := fun vs H Q E => ∃ (st v : Int) (a p : Addr) (fs : List Fld) (b : Bk) (m : Str) (up : Bool), vs = [.int st, .int v, .ref a, .str m, .bl up, .ref p] ∧ FT H a fs ∧ OkFs fs ∧ BookAt A H p b ∧ BkOk b ∧ FrP A (respFr st v fs b m up) H Q E
abbrev N_response_frame : List Str := ["status", "version", "fields", "method", "upgrade", "book", "frame"]
theorem sc_response_frame : FnScope N_response_frame ["status", "version", "fields", "method", "upgrade", "book"] (defScope s_response_frame) := ⟨rfl, rfl, rfl, by decide +kernel, rfl, by decide +kernel, by decide +kernel⟩
theorem h_response_frame (T : Txt K w mg A) : HasK (L2N.CX P w) P w K mg base "response_frame" 4 3 ["method", "upgrade", "book"] (sp_response_frame (A := A)) := by
  refine hasKX (k := 3) T.d_response_frame (by simp) sc_response_frame (fun _ _ _ _ _ _ us ws hl hw => match us, hl, ws, hw with | [_, _, _], _, [_, _, _], _ => rfl) (fun vs H Q E h => ?_) (fun f cdv A0 outer s H vs Q E hr tkB h => ?_)
  · obtain ⟨st, v, a, p, fs, b, m, up, rfl, _⟩ := h
    rfl
  · obtain ⟨st, v, a, p, fs, b, m, up, rfl, hfs, hok, hb, bok, k1, k2⟩ := h
    let Pre : Hp → V → Prop := fun H1 x => Ex H H1 ∧ frameErr v fs b = "" ∧ ((plainFr fs = none ∧ x = .non) ∨ (∃ fr t, plainFr fs = some fr ∧ x = .ref t ∧ H t = none ∧ H1 t = some (.tup fr.v)))
    have r0' : frameErr v fs b = "" → respFr st v fs b m up = (if decide (st = 101) && !up then .error "unasked"
      else if decide (st < 200) && !decide (st = 101) then .ok .info
      else if decide (st = 101) || (decide (m = "CONNECT") && decide (st < 300)) then .ok .switch
      else if (decide (st = 204) || decide (st = 304)) || decide (m = "HEAD") then .ok (.len 0)
      else .ok ((plainFr fs).getD .close)) := by
      intro h0
      unfold respFr
      rw [if_pos h0]
    have ret' : ∀ H1, Ex H H1 → ∀ fr, respFr st v fs b m up = .ok fr → ∀ t, H1 t = none → Q (.ref t) (upd H1 t (.tup fr.v)) := fun H1 e1 fr hfr t ht => k1 fr t _ hfr (e1.free ht) (e1.tr (Ex.new ht)) upd_same
    obtain ⟨t5, tl5, h5⟩ : ∃ t5, PSs (cxOf (L2N.CX P w) P w K mg base N_response_frame "response_frame" (defScope s_response_frame) f cdv A0 outer s H E) ((defBody s_response_frame).drop 5) t5 ∧ (∀ H1 x, Pre H1 x → (decide (st = 101) && !up) = false → (decide (st < 200) && !decide (st = 101)) = false → (decide (st = 101) || (decide (m = "CONNECT") && decide (st < 300))) = false → ((decide (st = 204) || decide (st = 304)) || decide (m = "HEAD")) = false → t5 { nx := fun _ H' => Q .non H', rt := Q } [some (.int st), some (.int v), some (.ref a), some (.str m), some (.bl up), some (.ref p), some x] H1) := by
      refine ⟨_, ((pss_one (ps_ret (pe_ifExp (pt_cmpR op_isN (pv 6) pe_non (nomark _)) (pe_tup (pa_cons (C8.pe_gc rfl T.c_CLOSE_frames) pa_nil)) (pv 6))))), fun H1 x pre c1 c2 c3 c4 => ?_⟩
      obtain ⟨e1, h0, hx⟩ := id pre
      have r0 := r0' h0
      have ret := ret' H1 e1
      have r5 : respFr st v fs b m up = .ok ((plainFr fs).getD .close) := by
        rw [r0, c1, c2, c3, c4]
        rfl
      refine ⟨_, rfl, rfl, _, rfl, ?_⟩
      rcases hx with ⟨hn, rfl⟩ | ⟨fr, t, hs, rfl, ht, hxt⟩
      · exact iteT ⟨by show 1 ≤ sizeLine; decide, fun t ht => ret .close (by rw [r5, hn]; rfl) t ht⟩
      · exact iteF ⟨_, rfl, k1 fr t _ (by rw [r5, hs]; rfl) ht e1 hxt⟩
    obtain ⟨t4, tl4, h4⟩ : ∃ t4, PSs (cxOf (L2N.CX P w) P w K mg base N_response_frame "response_frame" (defScope s_response_frame) f cdv A0 outer s H E) ((defBody s_response_frame).drop 4) t4 ∧ (∀ H1 x, Pre H1 x → (decide (st = 101) && !up) = false → (decide (st < 200) && !decide (st = 101)) = false → (decide (st = 101) || (decide (m = "CONNECT") && decide (st < 300))) = false → t4 { nx := fun _ H' => Q .non H', rt := Q } [some (.int st), some (.int v), some (.ref a), some (.str m), some (.bl up), some (.ref p), some x] H1) := by
      refine ⟨_, ((pss_cons (ps_if (PW.pt (pw_or (pt_cmpR op_in_seq (pv 0) (pe_glob rfl (v := .ref A.EM) T.c_EMPTY rfl) (by rfl)) (pw_or1 (pt_cmpR op_eq (pv 3) pe_str (nomark _))))) (pss_one (ps_ret (pe_tup (pa_cons (C8.pe_gc rfl T.c_LENGTH_frames) (pa_cons pe_int pa_nil))))) pss_nil)
      tl5)), fun H1 x pre c1 c2 c3 => ?_⟩
      obtain ⟨e1, h0, hx⟩ := id pre
      have r0 := r0' h0
      have ret := ret' H1 e1
      have yes : ((decide (st = 204) || decide (st = 304)) || decide (m = "HEAD")) = true → ∀ t, H1 t = none → Q (.ref t) (upd H1 t (.tup [.str "length", .int 0])) := fun c4 => ret (.len 0) (by rw [r0, c1, c2, c3, c4]; rfl)
      refine ⟨_, rfl, A.EM, _, rfl, Or.inr (T.t_EMPTY H1), rfl, rfl, _, rfl, ?_⟩
      have ei : inV (.int st) [.int 204, .int 304] = (decide (st = 204) || decide (st = 304)) := by
        unfold inV
        show ((204 == st) || (((304 : Int) == st) || false)) = _
        rw [Bool.or_false]
        by_cases q : st = 204
        · subst q; rfl
        · by_cases q2 : st = 304
          · subst q2; rfl
          · have a1 : ((204 : Int) == st) = false := by simpa using fun z : (204 : Int) = st => q z.symm
            have a2 : ((304 : Int) == st) = false := by simpa using fun z : (304 : Int) = st => q2 z.symm
            rw [a1, a2, decide_eq_false q, decide_eq_false q2]
      rw [show (if false = true then !inV (.int st) [.int 204, .int 304] else inV (.int st) [.int 204, .int 304]) = (decide (st = 204) || decide (st = 304)) from ei]
      refine ite2 (fun q1 => ?_) (fun q1 => ?_)
      · exact ⟨by show 2 ≤ sizeLine; decide, yes (by rw [q1]; rfl)⟩
      · rw [Bool.not_eq_true] at q1
        refine ⟨_, rfl, rfl, _, rfl, ?_⟩
        rw [dec_vs]
        refine ite2 (fun q2 => ?_) (fun q2 => ?_)
        · exact ⟨by show 2 ≤ sizeLine; decide, yes (by rw [q1, q2]; rfl)⟩
        · rw [Bool.not_eq_true] at q2
          exact h5 H1 x pre c1 c2 c3 (by rw [q1, q2]; rfl)
    obtain ⟨t3, tl3, h3⟩ : ∃ t3, PSs (cxOf (L2N.CX P w) P w K mg base N_response_frame "response_frame" (defScope s_response_frame) f cdv A0 outer s H E) ((defBody s_response_frame).drop 3) t3 ∧ (∀ H1 x, Pre H1 x → (decide (st = 101) && !up) = false → (decide (st < 200) && !decide (st = 101)) = false → t3 { nx := fun _ H' => Q .non H', rt := Q } [some (.int st), some (.int v), some (.ref a), some (.str m), some (.bl up), some (.ref p), some x] H1) := by
      refine ⟨_, ((pss_cons (ps_if (PW.pt (pw_or (pt_cmpR op_eq (pv 0) (C8.pe_gc rfl T.c_SWITCHING) (nomark _)) (pw_or1 (PW.pt (pw_and (pt_cmpR op_eq (pv 3) pe_str (nomark _)) (pw_and1 (pt_cmpR op_lt (pv 0) pe_int (nomark _)))))))) (pss_one (ps_ret (pe_tup (pa_cons (C8.pe_gc rfl T.c_SWITCH) pa_nil)))) pss_nil)
      tl4)), fun H1 x pre c1 c2 => ?_⟩
      obtain ⟨e1, h0, hx⟩ := id pre
      have r0 := r0' h0
      have ret := ret' H1 e1
      have yes : (decide (st = 101) || (decide (m = "CONNECT") && decide (st < 300))) = true → ∀ t, H1 t = none → Q (.ref t) (upd H1 t (.tup [.str "switch"])) := fun c3 => ret .switch (by rw [r0, c1, c2, c3]; rfl)
      refine ⟨_, rfl, rfl, _, rfl, ?_⟩
      rw [dec_vi]
      refine ite2 (fun q1 => ?_) (fun q1 => ?_)
      · exact ⟨by show 1 ≤ sizeLine; decide, yes (by rw [q1]; rfl)⟩
      · rw [Bool.not_eq_true] at q1
        refine ⟨_, rfl, rfl, _, rfl, ?_⟩
        rw [dec_vs]
        refine ite2 (fun q2 => ?_) (fun q2 => ?_)
        · refine ⟨_, rfl, _, _, rfl, rfl, _, rfl, ?_⟩
          refine ite2 (fun q3 => ?_) (fun q3 => ?_)
          · exact ⟨by show 1 ≤ sizeLine; decide, yes (by rw [q1, q2, q3]; rfl)⟩
          · rw [Bool.not_eq_true] at q3
            exact h4 H1 x pre c1 c2 (by rw [q1, q2, q3]; rfl)
        · rw [Bool.not_eq_true] at q2
          exact h4 H1 x pre c1 c2 (by rw [q1, q2]; rfl)
    obtain ⟨t2, tl2, h2⟩ : ∃ t2, PSs (cxOf (L2N.CX P w) P w K mg base N_response_frame "response_frame" (defScope s_response_frame) f cdv A0 outer s H E) ((defBody s_response_frame).drop 2) t2 ∧ (∀ H1 x, Pre H1 x → (decide (st = 101) && !up) = false → t2 { nx := fun _ H' => Q .non H', rt := Q } [some (.int st), some (.int v), some (.ref a), some (.str m), some (.bl up), some (.ref p), some x] H1) := by
      refine ⟨_, ((pss_cons (ps_if (PW.pt (pw_and (pt_cmpR op_lt (pv 0) pe_int (nomark _)) (pw_and1 (pt_cmpR op_ne (pv 0) (C8.pe_gc rfl T.c_SWITCHING) (nomark _))))) (pss_one (ps_ret (pe_tup (pa_cons (C8.pe_gc rfl T.c_INFO_frames) pa_nil)))) pss_nil)
      tl3)), fun H1 x pre c1 => ?_⟩
      obtain ⟨e1, h0, hx⟩ := id pre
      have r0 := r0' h0
      have ret := ret' H1 e1
      refine ⟨_, rfl, _, _, rfl, rfl, _, rfl, ?_⟩
      refine ite2 (fun q1 => ?_) (fun q1 => ?_)
      · refine ⟨_, rfl, rfl, _, rfl, ?_⟩
        rw [dec_vi]
        refine ite2 (fun q2 => ?_) (fun q2 => ?_)
        · exact ⟨by show 1 ≤ sizeLine; decide, ret .info (by rw [r0, c1, q1, q2]; rfl)⟩
        · rw [Bool.not_eq_true] at q2
          exact h3 H1 x pre c1 (by rw [q1, q2]; rfl)
      · rw [Bool.not_eq_true] at q1
        exact h3 H1 x pre c1 (by rw [q1]; rfl)
    obtain ⟨tB, tailB, hB⟩ : ∃ tB, PSs (cxOf (L2N.CX P w) P w K mg base N_response_frame "response_frame" (defScope s_response_frame) f cdv A0 outer s H E) ((defBody s_response_frame).drop 1) tB ∧ (∀ H1 x, Pre H1 x → tB { nx := fun _ H' => Q .non H', rt := Q } [some (.int st), some (.int v), some (.ref a), some (.str m), some (.bl up), some (.ref p), some x] H1) := by
      refine ⟨_, ((pss_cons (ps_if (PW.pt (pw_and (pt_cmpR op_eq (pv 0) (C8.pe_gc rfl T.c_SWITCHING) (nomark _)) (pw_and1 (pt_not (pt_val (pv 4)))))) (pss_one (ps_raiseK (hx_BadFrame T) (hr.mono (by decide)) rfl tkB pe_str)) pss_nil)
      tl2)), fun H1 x pre => ?_⟩
      obtain ⟨e1, h0, hx⟩ := id pre
      have r0 := r0' h0
      refine ⟨_, rfl, rfl, _, rfl, ?_⟩
      rw [dec_vi]
      refine ite2 (fun q1 => ?_) (fun q1 => ?_)
      · refine ⟨_, rfl, _, rfl, ?_⟩
        refine ite2 (fun q2 => ?_) (fun q2 => ?_)
        · refine ⟨_, rfl, by decide +kernel, ?_⟩
          have := k2 "unasked" (by rw [r0, q1, q2]; rfl)
          exact (this.of e1).self
        · rw [Bool.not_eq_true] at q2
          exact h2 H1 x pre (by rw [q1, q2]; rfl)
      · rw [Bool.not_eq_true] at q1
        exact h2 H1 x pre (by rw [q1]; rfl)
    refine ⟨_, ((pss_cons (ps_set (i := 6) sc_response_frame.nd rfl (.inl rfl) (pe_fn (h_plain_frame T) (hr.mono (by decide)) (fun σ => L2N.passAt tkB σ) (pa_cons (pv 1) (pa_cons (pv 2) (pa_cons (pe_fn (h_book_of T) (hr.mono (by decide)) paN (pa_cons (pv 5) pa_nil)) pa_nil)))))
      tailB)), ?_⟩
    refine ⟨_, rfl, _, rfl, _, rfl, p, b, rfl, hb, v, a, p, fs, b, rfl, hfs, hok, hb, bok, fun h0 hn H1 e1 => ?_, fun fr t H1 h0 hs ht e1 hx => ?_, fun kk h0 hne => ?_⟩
    · exact hB H1 _ ⟨e1, h0, Or.inl ⟨hn, rfl⟩⟩
    · exact hB H1 _ ⟨e1, h0, Or.inr ⟨fr, t, hs, rfl, ht, hx⟩⟩
    · exact k2 kk (by unfold respFr; rw [if_neg (by rw [h0]; exact hne), h0])
end
end K32

namespace K32
open PySem PySem.Spec PyProof.Rows L2
section
variable {P : Program} {w : World} {K : PySem.W.Frag} {mg : Str → Option Value} {base : Heap} {A : Adr}
/-! ### persists, asks_upgrade -/
def sp_persists : Sp := fun vs H Q _ => ∃ (v : Int) (a p : Addr) (fs : List Fld) (b : Bk), vs = [.int v, .ref a, .ref p] ∧ FT H a fs ∧ OkFs fs ∧ BookAt A H p b ∧ ∀ H', Ex H H' → Q (.bl (persB v fs b)) H'
abbrev N_persists : List Str := ["version", "fields", "book", "items"]
theorem sc_persists : FnScope N_persists ["version", "fields", "book"] (defScope s_persists) := ⟨rfl, rfl, rfl, by decide +kernel, rfl, by decide +kernel, by decide +kernel⟩
theorem h_persists (T : Txt K w mg A) : HasK CX0 P w K mg base "persists" 2 2 ["book"] (sp_persists (A := A)) := by
  refine hasK0 (k := 1) T.d_persists (by simp) sc_persists (fun _ _ _ _ _ _ us ws hl hw => match us, hl, ws, hw with | [_, _], _, [_], _ => rfl) (fun vs H Q E h => ?_) (fun f cdv A0 outer s H vs Q E hr h => ?_)
  · obtain ⟨v, a, p, fs, b, rfl, _⟩ := h
    rfl
  · obtain ⟨v, a, p, fs, b, rfl, hfs, hok, hb, k⟩ := h
    have key : ∀ H', Ex H H' → ∀ r, persB v fs b = r → Q (.bl r) H' := fun H' e r hr => hr ▸ k H' e
    refine ⟨_, ((pss_cons (ps_set (i := 3) sc_persists.nd rfl (.inl rfl) (pe_fn (h_items_of T) (hr.mono (by decide)) paN (pa_cons (pv 1) (pa_cons pe_str pa_nil))))
      (pss_cons (ps_if (pt_cmpR op_in_seq pe_str (pv 3) (by rfl)) (pss_one (ps_ret pe_bl)) pss_nil)
      (pss_one (ps_ret (pe_or (pe_cmpR op_eq (pv 0) pe_int (nomark _)) (pe_one (pe_and (pe_cmpR op_in_seq pe_str (pv 3) (by rfl)) (pe_one (pe_fld (pe_fn (h_book_of T) (hr.mono (by decide)) paN (pa_cons (pv 2) pa_nil)) rfl)))))))))), ?_⟩
    refine ⟨_, rfl, a, _, fs, rfl, hfs, hok, by decide +kernel, fun p1 H1 hp1 e1 hx => ?_⟩
    refine ⟨_, rfl, p1, _, rfl, Or.inl (SqL.of hx), rfl, all_flat_strs _, _, rfl, ?_⟩
    rw [show (if false = true then !inV (.str "close") ((itemsOf fs "connection").map V.str) else inV (.str "close") ((itemsOf fs "connection").map V.str)) = decide (("close" : Str) ∈ itemsOf fs "connection") from inV_strs _ _]
    refine ite2 (fun h1 => ?_) (fun h1 => ?_)
    · exact key H1 e1 _ (by unfold persB; rw [h1]; rfl)
    · rw [Bool.not_eq_true] at h1
      refine ⟨_, rfl, rfl, _, rfl, ?_⟩
      rw [dec_vi]
      refine ite2 (fun h2 => ?_) (fun h2 => ?_)
      · refine key H1 e1 _ ?_
        unfold persB
        rw [h1, h2]
        rfl
      · rw [Bool.not_eq_true] at h2
        refine ⟨_, rfl, p1, _, rfl, Or.inl (SqL.of hx), rfl, all_flat_strs _, _, rfl, ?_⟩
        rw [show (if false = true then !inV (.str "keep-alive") ((itemsOf fs "connection").map V.str) else inV (.str "keep-alive") ((itemsOf fs "connection").map V.str)) = decide (("keep-alive" : Str) ∈ itemsOf fs "connection") from inV_strs _ _]
        refine ite2 (fun h3 => ?_) (fun h3 => ?_)
        · obtain ⟨dx, hbx⟩ := hb.mono e1
          refine ⟨_, rfl, p, b, rfl, ⟨dx, hbx⟩, p, _, dx, _, _, rfl, hbx, T.cl_Book, T.n_Book_keep_old, bfs_keep_old b, ?_⟩
          exact key H1 e1 _ (by unfold persB; rw [h1, h2, h3]; rfl)
        · rw [Bool.not_eq_true] at h3
          exact key H1 e1 _ (by unfold persB; rw [h1, h2, h3]; rfl)
def sp_asks_upgrade : Sp := fun vs H Q _ => ∃ (v : Int) (a : Addr) (fs : List Fld), vs = [.int v, .ref a] ∧ FT H a fs ∧ OkFs fs ∧ ∀ H', Ex H H' → Q (.bl (upB v fs)) H'
abbrev N_asks_upgrade : List Str := ["version", "fields"]
theorem sc_asks_upgrade : FnScope N_asks_upgrade ["version", "fields"] (defScope s_asks_upgrade) := ⟨rfl, rfl, rfl, by decide +kernel, rfl, by decide +kernel, by decide +kernel⟩
theorem h_asks_upgrade (T : Txt K w mg A) : Has CX0 P w K mg base "asks_upgrade" 2 ["version", "fields"] sp_asks_upgrade := by
  refine has0 (k := 1) T.d_asks_upgrade sc_asks_upgrade (fun _ _ _ _ _ _ us hl => match us, hl with | [_, _], _ => rfl) (fun vs H Q E h => ?_) (fun f cdv A0 outer s H vs Q E hr h => ?_)
  · obtain ⟨v, a, fs, rfl, _⟩ := h
    rfl
  · obtain ⟨v, a, fs, rfl, hfs, hok, k⟩ := h
    have key : ∀ H', Ex H H' → ∀ r, upB v fs = r → Q (.bl r) H' := fun H' e r hr => hr ▸ k H' e
    refine ⟨_, ((pss_one (ps_ret (pe_and (pe_cmpR op_eq (pv 0) pe_int (nomark _)) (pe_one (pe_cmpR op_in_seq pe_str (pe_fn (h_items_of T) (hr.mono (by decide)) paN (pa_cons (pv 1) (pa_cons pe_str pa_nil))) (by rfl))))))), ?_⟩
    refine ⟨_, rfl, rfl, _, rfl, ?_⟩
    rw [dec_vi]
    refine ite2 (fun h1 => ?_) (fun h1 => ?_)
    · refine ⟨_, rfl, a, _, fs, rfl, hfs, hok, by decide +kernel, fun p1 H1 hp1 e1 hx => ?_⟩
      refine ⟨p1, _, rfl, Or.inl (SqL.of hx), rfl, all_flat_strs _, ?_⟩
      rw [show (if false = true then !inV (.str "upgrade") ((itemsOf fs "connection").map V.str) else inV (.str "upgrade") ((itemsOf fs "connection").map V.str)) = decide (("upgrade" : Str) ∈ itemsOf fs "connection") from inV_strs _ _]
      exact key H1 e1 _ (by unfold upB; rw [h1]; rfl)
    · rw [Bool.not_eq_true] at h1
      exact key H (Ex.rfl' _) _ (by unfold upB; rw [h1]; rfl)
/-! ### is_status_word -/
def sp_is_status_word : Sp := fun vs H Q _ => ∃ z : Str, vs = [.str z] ∧ z.length ≤ 300 ∧ Q (.bl (isSt z)) H
abbrev N_is_status_word : List Str := ["word"]
theorem sc_is_status_word : FnScope N_is_status_word ["word"] (defScope s_is_status_word) := ⟨rfl, rfl, rfl, by decide +kernel, rfl, by decide +kernel, by decide +kernel⟩
theorem h_is_status_word (T : Txt K w mg A) : Has CX0 P w K mg base "is_status_word" 1 ["word"] sp_is_status_word := by
  refine has0 (k := 0) T.d_is_status_word sc_is_status_word (fun _ _ _ _ _ _ us hl => match us, hl with | [_], _ => rfl) (fun vs H Q E h => ?_) (fun f cdv A0 outer s H vs Q E hr h => ?_)
  · obtain ⟨z, rfl, _⟩ := h
    rfl
  · obtain ⟨z, rfl, hz, k⟩ := h
    refine ⟨_, ((pss_one (ps_ret (pe_and (pe_cmpR op_eq (pe_callB call_len_str (by rfl) T.b_len PySem.boot_len (pa_cons (pv 0) pa_nil)) pe_int (nomark _)) (pe_and (pe_cmpR op_in_sign (pe_ix ix_str (pv 0) pe_int (fun _ _ => rfl)) pe_str (by rfl)) (pe_and (pe_cmpR op_in_sign (pe_ix ix_str (pv 0) pe_int (fun _ _ => rfl)) (C8.pe_gc rfl T.c_DIGITS) (by rfl)) (pe_one (pe_cmpR op_in_sign (pe_ix ix_str (pv 0) pe_int (fun _ _ => rfl)) (C8.pe_gc rfl T.c_DIGITS) (by rfl))))))))), ?_⟩
    have fals : isSt z = false → Q (.bl false) H := fun e => e ▸ k
    refine ⟨_, rfl, _, rfl, small (by omega), rfl, _, rfl, ?_⟩
    rw [dec_vi]
    refine ite2 (fun h1 => ?_) (fun h1 => ?_)
    · obtain ⟨a, b, c, e⟩ := len3 (z := z) (by have := of_decide_eq_true h1; omega)
      have e0 : isSt z = (decide (a ∈ ("12345" : Str).cps.toList) && (inD b && inD c)) := by
        unfold isSt
        rw [e]
      refine ⟨_, rfl, _, _, a, rfl, rfl, small (by omega), (by rw [e]; rfl), a, _, rfl, rfl, _, rfl, ?_⟩
      refine ite2 (fun h3 => ?_) (fun h3 => ?_)
      · refine ⟨_, rfl, _, _, b, rfl, rfl, small (by omega), (by rw [e]; rfl), b, _, rfl, rfl, _, rfl, ?_⟩
        refine ite2 (fun h4 => ?_) (fun h4 => ?_)
        · have h4' : inD b = true := h4
          refine ⟨_, rfl, _, _, c, rfl, rfl, small (by omega), (by rw [e]; rfl), c, _, rfl, rfl, ?_⟩
          rw [h3, h4'] at e0
          rw [e0] at k
          exact k
        · rw [Bool.not_eq_true] at h4
          have h4' : inD b = false := h4
          refine fals ?_
          rw [e0, h3, h4']
          rfl
      · rw [Bool.not_eq_true] at h3
        refine fals ?_
        rw [e0, h3]
        rfl
    · refine fals ?_
      unfold isSt
      exact isSt_not (fun q => h1 (decide_eq_true (by rw [q]; rfl)))
/-! ### read_status, read_size -/
theorem isSt_num {z : Str} (h : isSt z = true) : intText? z = some (numOf z) ∧ z.length = 3 := by
  unfold isSt at h
  split at h
  · rename_i a b c q
    have el : z.length = 3 := by
      have e : z.cps.toList.length = z.length := Array.length_toList
      rw [q] at e
      exact e.symm
    refine ⟨(num_of (fun d hd => ?_) (by omega) (by omega)).1, el⟩
    simp only [Bool.and_eq_true] at h
    obtain ⟨h1, h2, h3⟩ := h
    rw [q] at hd
    simp only [List.mem_cons, List.not_mem_nil, or_false] at hd
    rcases hd with rfl | rfl | rfl
    · have e : ("12345" : Str).cps.toList = [49, 50, 51, 52, 53] := by decide +kernel
      rw [decide_eq_true_eq, e] at h1
      simp only [List.mem_cons, List.not_mem_nil, or_false] at h1
      omega
    · exact mem_digits h2
    · exact mem_digits h3
  · cases h
def sp_read_status : Sp := fun vs H Q E => ∃ z : Str, vs = [.str z] ∧ okS z ∧ z.length ≤ 300 ∧ (∀ a b v t H', mSta z = .ok (a, b, v) → H t = none → Ex H H' → H' t = some (.tup [.int a, .str b, .int v]) → Q (.ref t) H') ∧ (∀ k, mSta z = .error k → ErrP A.BL k H E)
abbrev N_read_status : List Str := ["line", "word", "blank", "rest", "status", "second_blank", "reason"]
theorem sc_read_status : FnScope N_read_status ["line"] (defScope s_read_status) := ⟨rfl, rfl, rfl, by decide +kernel, rfl, by decide +kernel, by decide +kernel⟩
theorem h_read_status (T : Txt K w mg A) : Has (L2N.CX P w) P w K mg base "read_status" 4 ["line"] (sp_read_status (A := A)) := by
  refine hasX (k := 3) T.d_read_status sc_read_status (fun _ _ _ _ _ _ us hl => match us, hl with | [_], _ => rfl) (fun vs H Q E h => ?_) (fun f cdv A0 outer s H vs Q E hr tkB h => ?_)
  · obtain ⟨z, rfl, _⟩ := h
    rfl
  · obtain ⟨z, rfl, hok, hz, k1, k2⟩ := h
    refine ⟨_, ((pss_cons (ps_if (pt_not (pt_val (pe_fn (h_is_string T) (hr.mono (by decide)) paN (pa_cons (pv 0) pa_nil)))) (pss_one (ps_raiseK (hx_BadLine T) (hr.mono (by decide)) rfl tkB pe_str)) pss_nil)
      (pss_cons (ps_asg (pe_partition (pv 0) pe_str) (pg_tup (by rfl) (pgs_cons (pg_name (i := 1) sc_read_status.nd rfl (.inl rfl)) (pgs_cons (pg_name (i := 2) sc_read_status.nd rfl (.inl rfl)) (pgs_cons (pg_name (i := 3) sc_read_status.nd rfl (.inl rfl)) pgs_nil)))))
      (pss_cons (ps_asg (pe_partition (pv 3) pe_str) (pg_tup (by rfl) (pgs_cons (pg_name (i := 4) sc_read_status.nd rfl (.inl rfl)) (pgs_cons (pg_name (i := 5) sc_read_status.nd rfl (.inl rfl)) (pgs_cons (pg_name (i := 6) sc_read_status.nd rfl (.inl rfl)) pgs_nil)))))
      (pss_cons (ps_if (PW.pt (pw_or (pt_cmpR op_eq (pv 5) pe_str (nomark _)) (pw_or1 (pt_not (pt_val (pe_fn (h_is_status_word T) (hr.mono (by decide)) paN (pa_cons (pv 4) pa_nil))))))) (pss_one (ps_raiseK (hx_BadLine T) (hr.mono (by decide)) rfl tkB pe_str)) pss_nil)
      (pss_one (ps_ret (pe_tup (pa_cons (pe_callTy call_int_str (by rfl) T.b_int (by decide +kernel) (pa_cons (pv 4) pa_nil)) (pa_cons (pe_m1 F.slot_str_strip F.type_str_strip mt_stripChars (pv 6) pe_str) (pa_cons (pe_fn (h_version_of T) (hr.mono (by decide)) (fun σ => L2N.passAt tkB σ) (pa_cons (pv 1) pa_nil)) pa_nil))))))))))), ?_⟩
    refine ⟨_, rfl, z, rfl, hok, hz, fun H1 e1 => ⟨true, rfl, iteF ?_⟩⟩
    refine ⟨_, rfl, ⟨_, rfl⟩, z, " ", rfl, rfl, by decide +kernel, small (by omega), fun t ht => ?_⟩
    refine ⟨t, _, rfl, SqT.of upd_same, rfl, _, _, rfl, _, _, rfl, _, _, rfl, rfl, ?_⟩
    have p1 := part_len (x := z) sep_blank
    have p2 := part_len (x := (Txt.partition z " ").2.2) sep_blank
    refine ⟨_, rfl, ⟨_, rfl⟩, (Txt.partition z " ").2.2, " ", rfl, rfl, by decide +kernel, small (by omega), fun t2 ht2 => ?_⟩
    refine ⟨t2, _, rfl, SqT.of upd_same, rfl, _, _, rfl, _, _, rfl, _, _, rfl, rfl, ?_⟩
    have e2 := (e1.tr (Ex.new ht)).tr (Ex.new (o := .tup [.str (Txt.partition (Txt.partition z " ").2.2 " ").1, .str (Txt.partition (Txt.partition z " ").2.2 " ").2.1, .str (Txt.partition (Txt.partition z " ").2.2 " ").2.2]) ht2)
    have bad : mSta z = .error "start" → ∀ H2, Ex H H2 → ∃ z_1, V.str "start" = V.str z_1 ∧ z_1.length ≤ 100 ∧ ∀ d H3, H2 d = none → Evl.Ex H2 H3 → H3 d = some (.xd [(("kind" : Str), .str z_1)]) → E (.ref A.BL) (some d) H3 :=
      fun e H2 e2 => ⟨_, rfl, by decide +kernel, ((k2 _ e).of e2).self⟩
    refine ⟨_, rfl, rfl, _, rfl, ?_⟩
    rw [dec_vs]
    refine ite2 (fun h1 => ?_) (fun h1 => ?_)
    · refine bad ?_ _ e2
      unfold mSta
      rw [h1]
      rfl
    · rw [Bool.not_eq_true] at h1
      refine ⟨_, rfl, _, rfl, by omega, _, rfl, ?_⟩
      refine ite2 (fun h2 => ?_) (fun h2 => ?_)
      · refine bad ?_ _ e2
        unfold mSta
        rw [h1, h2]
        rfl
      · have h2' : isSt (Txt.partition (Txt.partition z " ").2.2 " ").1 = true := by simpa using h2
        obtain ⟨n1, n2⟩ := isSt_num h2'
        have em : mSta z = (match vOf (Txt.partition z " ").1 with
          | .ok v => .ok (numOf (Txt.partition (Txt.partition z " ").2.2 " ").1, Txt.stripChars (Txt.partition (Txt.partition z " ").2.2 " ").2.2 " ", v)
          | .error e => .error e) := by
          unfold mSta
          rw [h1, h2']
          rfl
        refine ⟨_, rfl, _, _, rfl, n1, by omega, _, rfl, ⟨_, rfl⟩, _, _, rfl, rfl, small (by omega), _, rfl, (Txt.partition z " ").1, rfl, by omega, fun v hv => ?_, fun kk hk => ?_⟩
        · refine ⟨by show 3 ≤ sizeLine; decide, fun t3 ht3 => ?_⟩
          exact k1 _ _ v t3 _ (by rw [em, hv]) (e2.free ht3) (e2.tr (Ex.new ht3)) upd_same
        · exact (k2 kk (by rw [em, hk])).of e2
def sp_read_size : Sp := fun vs H Q E => ∃ z : Str, vs = [.str z] ∧ okS z ∧ z.length ≤ 300 ∧ (∀ n H', mSize z = .ok n → Ex H H' → Q (.int n) H') ∧ (∀ k, mSize z = .error k → ErrP A.BL k H E)
abbrev N_read_size : List Str := ["line", "digits", "digit"]
theorem sc_read_size : FnScope N_read_size ["line"] (defScope s_read_size) := ⟨rfl, rfl, rfl, by decide +kernel, rfl, by decide +kernel, by decide +kernel⟩
theorem h_read_size (T : Txt K w mg A) : Has (L2N.CX P w) P w K mg base "read_size" 3 ["line"] (sp_read_size (A := A)) := by
  refine hasX (k := 2) T.d_read_size sc_read_size (fun _ _ _ _ _ _ us hl => match us, hl with | [_], _ => rfl) (fun vs H Q E h => ?_) (fun f cdv A0 outer s H vs Q E hr tkB h => ?_)
  · obtain ⟨z, rfl, _⟩ := h
    rfl
  · obtain ⟨z, rfl, hok, hz, k1, k2⟩ := h
    refine ⟨_, ((pss_cons (ps_if (pt_not (pt_val (pe_fn (h_is_string T) (hr.mono (by decide)) paN (pa_cons (pv 0) pa_nil)))) (pss_one (ps_raiseK (hx_BadLine T) (hr.mono (by decide)) rfl tkB pe_str)) pss_nil)
      (pss_cons (ps_set (i := 1) sc_read_size.nd rfl (.inl rfl) (pe_lower (pe_ix ix_tup (pe_partition (pv 0) pe_str) pe_int (fun _ _ => rfl))))
      (pss_cons (ps_if (PW.pt (pw_or (pt_not (pt_chain op_le op_le pe_int (pe_callB call_len_str (by rfl) T.b_len PySem.boot_len (pa_cons (pv 1) pa_nil)) (C8.pe_gc rfl T.c_MOST_SIZE_DIGITS))) (pw_or1 (pt_not (pt_val (pe_callB (cr_all rfl) (by rfl) T.b_all (by decide +kernel) (pa_cons (pe_lc (own := [("digit", 2)]) (g := gName 2) (tt := tYes) rfl sc_read_size.nd (pi_str (pv 1)) (blkOk_by (N := N_read_size) (sc := defScope s_read_size) (by decide +kernel)) (fun _ _ _ _ _ => pg_name (i := 2) sc_read_size.nd rfl (Or.inl rfl)) (fun _ _ _ _ _ => pts_nil) (fun _ _ _ _ _ => (pe_cmpR op_in_sign (pv 2) (C8.pe_gc rfl T.c_HEXADECIMAL) (by rfl)))) pa_nil))))))) (pss_one (ps_raiseK (hx_BadLine T) (hr.mono (by decide)) rfl tkB pe_str)) pss_nil)
      (pss_one (ps_ret (pe_callTy call_int_hex (by rfl) T.b_int (by decide +kernel) (pa_cons (pv 1) (pa_cons pe_int pa_nil))))))))), ?_⟩
    refine ⟨_, rfl, z, rfl, hok, hz, fun H1 e1 => ⟨true, rfl, iteF ?_⟩⟩
    have p1 := part_len (x := z) sep_semi
    have p2 := PyProof.Rows.len_lower (Txt.partition z ";").1
    generalize eg : Txt.lower (Txt.partition z ";").1 = g at *
    have bad : hexB g = false → ∀ H2, Ex H H2 → ∃ z_1, V.str "chunk" = V.str z_1 ∧ z_1.length ≤ 100 ∧ ∀ d H3, H2 d = none → Evl.Ex H2 H3 → H3 d = some (.xd [(("kind" : Str), .str z_1)]) → E (.ref A.BL) (some d) H3 :=
      fun e H2 e2 => ⟨_, rfl, by decide +kernel, ((k2 "chunk" (by unfold mSize; rw [eg, e]; rfl)).of e2).self⟩
    refine ⟨_, rfl, ⟨_, rfl⟩, z, ";", rfl, rfl, by decide +kernel, small (by omega), fun t ht => ?_⟩
    refine ⟨t, _, _, _, rfl, rfl, SqT.of upd_same, rfl, ⟨_, rfl⟩, _, rfl, rfl, by omega, ?_⟩
    rw [eg]
    have e2 := e1.tr (Ex.new (o := .tup [.str (Txt.partition z ";").1, .str (Txt.partition z ";").2.1, .str (Txt.partition z ";").2.2]) ht)
    refine ⟨_, rfl, g, rfl, small (by omega), _, _, rfl, rfl, _, rfl, ?_⟩
    refine ite2 (fun h1 => ?_) (fun h1 => ?_)
    · refine ⟨_, _, rfl, rfl, _, rfl, ?_⟩
      refine ite2 (fun h2 => ?_) (fun h2 => ?_)
      · refine bad ?_ _ e2
        have h2' : decide ((g.length : Int) ≤ 6) = false := by simpa using h2
        unfold hexB
        rw [h2', Bool.and_false]
        rfl
      · have h2' : decide ((g.length : Int) ≤ 6) = true := by simpa using h2
        have lg : g.length ≤ 6 := by have := of_decide_eq_true h2'; omega
        have lg1 : 1 ≤ g.length := by have := of_decide_eq_true h1; omega
        refine ⟨_, rfl, g, rfl, ?_⟩
        intro D hD
        refine comp_rel hD walk_signs (fun _ _ => trivial) (by rw [signs_len]; omega) (signs_rel g) (fun c => [some (.str z), some (.str g), some (.str ⟨#[c]⟩)]) (fun _ => true) (fun c => .bl (decide (c ∈ HEXS.cps.toList)))
          (fun x d H' r hd _ R q => ?_) (fun d _ => ?_) (fun d H' _ _ R q => ?_) (fun d H' hd _ _ R q => ?_) (fun H3 e3 hd => ?_)
        · rw [r]
          exact q
        · rfl
        · exact q H' (Ex.rfl' _)
        · exact ⟨_, rfl, d, _, rfl, rfl, q H' (Ex.rfl' _)⟩
        · refine ⟨D, g.cps.toList.map fun c => decide (c ∈ HEXS.cps.toList), rfl, SqL.of ?_, _, rfl, ?_⟩
          · rw [hd, filter_true, List.map_map]
            rfl
          · have e5 : ((g.cps.toList.map fun c => decide (c ∈ HEXS.cps.toList)).all id) = g.cps.toList.all fun c => decide (c ∈ HEXS.cps.toList) := by
              rw [List.all_map]
              rfl
            rw [e5]
            have e6 : hexB g = g.cps.toList.all fun c => decide (c ∈ HEXS.cps.toList) := by
              unfold hexB
              rw [h1, h2']
              rfl
            refine ite2 (fun h3 => ?_) (fun h3 => ?_)
            · refine bad ?_ _ (e2.tr e3)
              rw [e6]
              simpa using h3
            · have h3' : (g.cps.toList.all fun c => decide (c ∈ HEXS.cps.toList)) = true := by simpa using h3
              have ne : g.cps.toList ≠ [] := fun q => by
                have e : g.cps.toList.length = g.length := Array.length_toList
                rw [q] at e
                simp at e
                omega
              refine ⟨_, rfl, g.cps.toList, rfl, ne, ?_, fun c hc => hex_is (List.all_eq_true.mp h3' c hc), ?_⟩
              · have e : g.cps.toList.length = g.length := Array.length_toList
                omega
              · exact k1 _ _ (by unfold mSize; rw [eg, e6, h3']; rfl) (e2.tr e3)
    · refine ⟨_, rfl, iteT (bad ?_ _ e2)⟩
      have h1' : decide (1 ≤ (g.length : Int)) = false := by simpa using h1
      unfold hexB
      rw [h1']
      rfl
end
end K32

namespace K32
open PySem PySem.Spec PyProof.Rows L2
/-! ### events -/
inductive Stt where
  | no
  | req (a b : Str) (v : Int)
  | sta (s : Int) (r : Str) (v : Int)
deriving DecidableEq
def Stt.vs : Stt → List V
  | .no => []
  | .req a b v => [.str a, .str b, .int v]
  | .sta s r v => [.int s, .str r, .int v]
inductive Evt where
  | head (w : Str) (st : Stt) (fs : List Fld)
  | run (w : Str) (os : List Int)
  | fin (fs : List Fld)
  | err (k : Str) (n : Int)
deriving DecidableEq
def Evt.nm : Evt → Str
  | .head w _ _ => w
  | .run w _ => w
  | .fin _ => "end"
  | .err _ _ => "error"
/-- what stands behind the name -/
def EvTl (H : Hp) : List V → Evt → Prop
  | vs, .head _ st fs => ∃ f, vs = st.vs ++ [.ref f] ∧ FT H f fs
  | vs, .run _ os => ∃ o, vs = [.ref o] ∧ H o = some (.tup (os.map V.int))
  | vs, .fin fs => ∃ f, vs = [.ref f] ∧ FT H f fs
  | vs, .err k n => vs = [.str k, .int n]
def EvAt (H : Hp) (x : V) (e : Evt) : Prop := ∃ t vs, x = .ref t ∧ H t = some (.tup (.str e.nm :: vs)) ∧ EvTl H vs e
def EvOk : Evt → Prop
  | .head w _ _ => w ≠ "data" ∧ w ≠ "raw"
  | .run w os => (w = "data" ∨ w = "raw") ∧ os ≠ []
  | _ => True
/-- a list of events -/
def EL (H : Hp) (p : Addr) (es : List Evt) : Prop := ∃ xs, H p = some (.lst xs) ∧ Paired (EvAt H) xs es
theorem EvAt.mono {H H' : Hp} {x : V} {e : Evt} (t : Tk H H') (h : EvAt H x e) : EvAt H' x e := by
  obtain ⟨a, vs, rfl, ha, ht⟩ := h
  refine ⟨a, vs, rfl, t _ _ ha, ?_⟩
  cases e with
  | head w st fs =>
    obtain ⟨f, e1, hf⟩ := ht
    exact ⟨f, e1, hf.mono t⟩
  | run w os =>
    obtain ⟨o, e1, ho⟩ := ht
    exact ⟨o, e1, t _ _ ho⟩
  | fin fs =>
    obtain ⟨f, e1, hf⟩ := ht
    exact ⟨f, e1, hf.mono t⟩
  | err k n => exact ht
theorem evs_mono {H H' : Hp} {xs : List V} {es : List Evt} (t : Tk H H') (h : Paired (EvAt H) xs es) : Paired (EvAt H') xs es := L2.Paired.mapP h fun _ _ => EvAt.mono t
theorem Tk.upd {H : Hp} {p : Addr} {o o' : HO} (h : H p = some o') (hn : ∀ xs, o' ≠ .tup xs) : Tk H (upd H p o) := fun b xs hb => by
  by_cases e : b = p
  · subst e
    rw [hb] at h
    exact absurd (Option.some.inj h).symm (hn xs)
  · rw [upd_ne e]
    exact hb
def sumO : List Evt → Nat
  | [] => 0
  | .run _ os :: r => os.length + sumO r
  | _ :: r => sumO r
theorem sumO_app : ∀ a b : List Evt, sumO (a ++ b) = sumO a + sumO b
  | [], b => by simp [sumO]
  | e :: r, b => by
    have := sumO_app r b
    cases e <;> simp only [List.cons_append, sumO, this] <;> omega
/-! ### joined: its mirror -/
def joinS (acc : List Evt) (e : Evt) : List Evt :=
  match e, acc.getLast? with
  | .run w b, some (.run w' a) => if w' = w then acc.dropLast ++ [.run w (a ++ b)] else acc ++ [.run w b]
  | e, _ => acc ++ [e]
def joinE (es : List Evt) : List Evt := es.foldl joinS []
theorem joinE_snoc (es : List Evt) (e : Evt) : joinE (es ++ [e]) = joinS (joinE es) e := by
  unfold joinE
  rw [List.foldl_append]
  rfl
theorem joinS_ok {acc : List Evt} {e : Evt} (ha : ∀ x ∈ acc, EvOk x) (he : EvOk e) : ∀ x ∈ joinS acc e, EvOk x := by
  unfold joinS
  have base : ∀ x ∈ acc ++ [e], EvOk x := fun x hx => by
    rcases List.mem_append.mp hx with h | h
    · exact ha x h
    · rw [List.mem_singleton.mp h]
      exact he
  split
  · split
    · intro x hx
      rcases List.mem_append.mp hx with h | h
      · exact ha x ((List.dropLast_sublist acc).subset h)
      · rw [List.mem_singleton.mp h]
        refine ⟨he.1, fun q => he.2 (List.append_eq_nil_iff.mp q).2⟩
    · exact base
  · exact base
theorem last_split {α : Type} {l : List α} {x : α} (h : l.getLast? = some x) : l = l.dropLast ++ [x] := by
  have ne : l ≠ [] := fun q => by rw [q] at h; cases h
  have e := List.dropLast_concat_getLast ne
  rw [List.getLast?_eq_getLast ne] at h
  rw [← Option.some.inj h]
  exact e.symm
theorem joinS_sum (acc : List Evt) (e : Evt) : sumO (joinS acc e) = sumO (acc ++ [e]) := by
  unfold joinS
  split
  · rename_i w b w' a h
    split
    · conv => rhs; rw [last_split h]
      rw [sumO_app, sumO_app, sumO_app]
      simp only [sumO, List.length_append]
      omega
    · rfl
  · rfl
theorem joinS_len (acc : List Evt) (e : Evt) : (joinS acc e).length ≤ acc.length + 1 := by
  unfold joinS
  split
  · split
    · rw [List.length_append, List.length_dropLast]
      show _ + 1 ≤ _
      omega
    · simp
  · simp
theorem Paired.snoc {α β : Type} {R : α → β → Prop} : ∀ {xs : List α} {ys : List β} {x : α} {y : β}, Paired R xs ys → R x y → Paired R (xs ++ [x]) (ys ++ [y])
  | _, _, _, _, .nil, r => .cons r .nil
  | _, _, _, _, .cons a t, r => .cons a (Paired.snoc t r)
theorem Paired.dropLast {α β : Type} {R : α → β → Prop} : ∀ {xs : List α} {ys : List β}, Paired R xs ys → Paired R xs.dropLast ys.dropLast
  | _, _, .nil => .nil
  | _, _, .cons a .nil => .nil
  | _, _, .cons a (.cons b t) => .cons a (Paired.dropLast (.cons b t))
theorem Paired.last {α β : Type} {R : α → β → Prop} : ∀ {xs : List α} {ys : List β} {y : β}, Paired R xs ys → ys.getLast? = some y → ∃ x, xs[xs.length - 1]? = some x ∧ R x y
  | _, _, _, .nil, h => by cases h
  | _, _, _, .cons a .nil, h => by
    have e := Option.some.inj h
    subst e
    exact ⟨_, rfl, a⟩
  | x0 :: x1 :: xs, y0 :: y1 :: ys, y, .cons a (.cons b t), h => by
    obtain ⟨x, h1, h2⟩ := Paired.last (y := y) (Paired.cons b t) (by simpa using h)
    refine ⟨x, ?_, h2⟩
    simpa using h1
section
variable {P : Program} {w : World} {K : PySem.W.Frag} {mg : Str → Option Value} {base : Heap} {A : Adr}
theorem fin_no : ¬ ((("end" : Str) = "data") ∨ (("end" : Str) = "raw")) := by decide +kernel
theorem err_no : ¬ ((("error" : Str) = "data") ∨ (("error" : Str) = "raw")) := by decide +kernel
theorem at0 {α : Type} (x : α) (l : List α) : atI (x :: l) 0 = some x := atI_nat (xs := x :: l) (j := 0) rfl
theorem at1 {α : Type} (x y : α) (l : List α) : atI (x :: y :: l) 1 = some y := atI_nat (xs := x :: y :: l) (j := 1) rfl
theorem atI_last {α : Type} {xs : List α} {x : α} (h : xs[xs.length - 1]? = some x) : atI xs (-1) = some x := by
  have hl : xs.length - 1 < xs.length := (List.getElem?_eq_some_iff.mp h).1
  have h2 : L2.ixN xs.length (-1) = some (xs.length - 1) := by
    unfold L2.ixN
    rw [if_neg (by omega)]
    first
      | (rw [if_pos (by omega)]; exact congrArg some (by omega))
      | (split <;> first | exact congrArg some (by omega) | omega)
  unfold atI
  rw [h2]
  exact h
def sp_joined : Sp := fun vs H Q _ => ∃ (p : Addr) (es : List Evt), vs = [.ref p] ∧ EL H p es ∧ (∀ e ∈ es, EvOk e) ∧ es.length ≤ 90000 ∧ sumO es ≤ 90000 ∧ ∀ q H', H q = none → Ex H H' → EL H' q (joinE es) → Q (.ref q) H'
abbrev N_joined : List Str := ["events", "found", "event", "kind", "octets"]
theorem sc_joined : FnScope N_joined ["events"] (defScope s_joined) := ⟨rfl, rfl, rfl, by decide +kernel, rfl, by decide +kernel, by decide +kernel⟩
theorem h_joined (T : Txt K w mg A) : Has CX0 P w K mg base "joined" 1 ["events"] sp_joined := by
  refine has0 (k := 0) T.d_joined sc_joined (fun _ _ _ _ _ _ us hl => match us, hl with | [_], _ => rfl) (fun vs H Q E h => ?_) (fun f cdv A0 outer s H vs Q E hr h => ?_)
  · obtain ⟨p, es, rfl, _⟩ := h
    rfl
  · obtain ⟨p, es, rfl, ⟨xs, hp, hx⟩, hok, hlen, hsum, k⟩ := h
    refine ⟨_, ((pss_cons (ps_set (i := 1) sc_joined.nd rfl (.inl rfl) (pe_lst pa_nil))
      (pss_cons (ps_for PassesOwn.never rfl (pi_list (pv 0)) (pg_name (i := 2) sc_joined.nd rfl (.inl rfl))
      (pss_cons (ps_if (PW.pt (pw_and (pt_cmpR (op_neNil hr.units) (pv 1) (pe_lst pa_nil) (nomark _)) (pw_and (pt_cmpR op_in_seq (pe_ix ix_tup (pv 2) pe_int (fun _ _ => rfl)) (pe_tup (pa_cons (C8.pe_gc rfl T.c_DATA) (pa_cons (C8.pe_gc rfl T.c_RAW) pa_nil))) (by rfl)) (pw_and1 (pt_cmpR op_eq (pe_ix ix_tup (pe_ix ix_list (pv 1) (pe_un un_neg pe_int) (fun _ _ => rfl)) pe_int (fun _ _ => rfl)) (pe_ix ix_tup (pv 2) pe_int (fun _ _ => rfl)) (nomark _)))))) (pss_cons (ps_asg (pe_bm0 PySem.F.plainAttrs_list PySem.F.slot_list_pop PySem.F.type_list_pop mt_pop (pv 1)) (pg_tup (by rfl) (pgs_cons (pg_name (i := 3) sc_joined.nd rfl (.inl rfl)) (pgs_cons (pg_name (i := 4) sc_joined.nd rfl (.inl rfl)) pgs_nil))))
      (pss_one (ps_set (i := 2) sc_joined.nd rfl (.inl rfl) (pe_tup (pa_cons (pv 3) (pa_cons (pe_op op_catT (pv 4) (pe_ix ix_tup (pv 2) pe_int (fun _ _ => rfl))) pa_nil)))))) pss_nil)
      (pss_one (ps_expr (pe_bm PySem.F.plainAttrs_list PySem.F.slot_list_append PySem.F.type_list_append mt_append (pv 1) (pa_cons (pv 2) pa_nil))))))
      (pss_one (ps_ret (pv 1)))))), ?_⟩
    refine ⟨Nat.zero_le _, fun q hq => ?_⟩
    refine ⟨_, rfl, p, rfl, ⟨xs, SqL.of ((upd_ne (ne_of_none hp hq)).trans hp)⟩, ?_⟩
    have hxl := hx.length
    refine for_it (G := fun H => SqL K H p xs) walk_list (fun i σ H' => ∃ v2 v3 v4 ys, σ = [some (.ref p), some (.ref q), v2, v3, v4] ∧ Ex H H' ∧ H' q = some (.lst ys) ∧ Paired (EvAt H') ys (joinE (es.take i)) ∧ (∀ e ∈ joinE (es.take i), EvOk e) ∧ sumO (joinE (es.take i)) = sumO (es.take i) ∧ (joinE (es.take i)).length ≤ i)
      ⟨_, _, _, _, rfl, Ex.new hq, upd_same, .nil, (fun e he => by have he' : e ∈ ([] : List Evt) := he; cases he'), rfl, Nat.le_refl _⟩ ?_ ?_ ?_
    · rintro i σ H' _ ⟨_, _, _, _, _, e1, _⟩
      exact SqL.of (e1 _ _ hp)
    · rintro i x σ H0 H1 hi ⟨v2, v3, v4, ys, rfl, e1, hy, py, ok1, s1, l1⟩ ⟨e, hxi⟩
      have e' : H1 = H0 := e
      subst e'
      obtain ⟨ev, hev, ra⟩ := Paired.at hx hxi
      have oke := hok ev (List.mem_of_getElem? hev)
      have tk : es.take (i + 1) = es.take i ++ [ev] := by
        rw [List.take_succ, hev]
        rfl
      have jn : joinE (es.take (i + 1)) = joinS (joinE (es.take i)) ev := by rw [tk, joinE_snoc]
      have okn := joinS_ok ok1 oke
      rw [← jn] at okn
      have sn : sumO (joinE (es.take (i + 1))) = sumO (es.take (i + 1)) := by rw [jn, joinS_sum, tk, sumO_app, sumO_app, s1]
      have ln : (joinE (es.take (i + 1))).length ≤ i + 1 := by
        rw [jn]
        have := joinS_len (joinE (es.take i)) ev
        omega
      have st : sumO (es.take (i + 1)) ≤ sumO es := by
        conv => rhs; rw [← List.take_append_drop (i + 1) es, sumO_app]
        omega
      generalize joinE (es.take i) = acc at *
      have rb := ra.mono (Tk.of e1)
      obtain ⟨t, vs, rfl, ht, htl⟩ := id rb
      have lys := py.length
      have big : ys.length < sizeLine := Nat.lt_of_le_of_lt (by omega : ys.length ≤ 90000) (by decide)
      -- the event goes in as it is
      have fin : ∀ (H2 : Hp) (v3 v4 : Option V), Ex H1 H2 → joinS acc ev = acc ++ [ev] → (∃ v2 v3' v4' ys', [some (.ref p), some (.ref q), some (V.ref t), v3, v4] = [some (.ref p), some (.ref q), v2, v3', v4'] ∧ Ex H (upd H2 q (.lst (ys ++ [.ref t]))) ∧ (upd H2 q (.lst (ys ++ [.ref t]))) q = some (.lst ys') ∧
          Paired (EvAt (upd H2 q (.lst (ys ++ [.ref t])))) ys' (joinE (es.take (i + 1))) ∧ (∀ e ∈ joinE (es.take (i + 1)), EvOk e) ∧ sumO (joinE (es.take (i + 1))) = sumO (es.take (i + 1)) ∧ (joinE (es.take (i + 1))).length ≤ i + 1) := fun H2 v3 v4 e2 hj => by
        refine ⟨_, _, _, ys ++ [.ref t], rfl, (e1.tr e2).mut hq, upd_same, ?_, okn, sn, ln⟩
        rw [jn, hj]
        exact evs_mono (Tk.upd (e2 _ _ hy) (fun _ z => by cases z)) (Paired.snoc (evs_mono (Tk.of e2) py) (rb.mono (Tk.of e2)))
      refine ⟨_, rfl, Nat.zero_le _, fun n hn => ?_⟩
      have qn : q ≠ n := ne_of_none hy hn
      have tn : t ≠ n := ne_of_none ht hn
      have hy2 : (upd H1 n (.lst [])) q = some (.lst ys) := (upd_ne qn).trans hy
      have ht2 : (upd H1 n (.lst [])) t = some (.tup (.str ev.nm :: vs)) := (upd_ne tn).trans ht
      refine ⟨q, n, ys, rfl, rfl, SqL.of hy2, upd_same, _, rfl, ?_⟩
      have e2 : Ex H1 (upd H1 n (.lst [])) := Ex.new hn
      refine ite2 (fun c1 => ?_) (fun c1 => ?_)
      · refine ⟨_, rfl, t, _, _, _, rfl, rfl, SqT.of ht2, at0 _ _, by show 2 ≤ sizeLine; decide, fun m hm => ?_⟩
        have qm : q ≠ m := ne_of_none hy2 hm
        have tm : t ≠ m := ne_of_none ht2 hm
        refine ⟨m, _, rfl, Or.inr (SqT.of upd_same), rfl, rfl, _, rfl, ?_⟩
        have e3 := e2.tr (Ex.new (o := .tup [.str "data", .str "raw"]) hm)
        have hi : inV (.str ev.nm) [.str "data", .str "raw"] = decide (ev.nm = "data" ∨ ev.nm = "raw") := by
          have := inV_strs ev.nm ["data", "raw"]
          rw [show ([V.str "data", V.str "raw"]) = ([("data" : Str), "raw"] : List Str).map V.str from rfl, this]
          simp
        rw [show (if false = true then !inV (.str ev.nm) [.str "data", .str "raw"] else inV (.str ev.nm) [.str "data", .str "raw"]) = decide (ev.nm = "data" ∨ ev.nm = "raw") from hi]
        refine ite2 (fun c2 => ?_) (fun c2 => ?_)
        · have c2' := of_decide_eq_true c2
          obtain ⟨wv, os, rfl⟩ : ∃ wv os, ev = .run wv os := by
            cases ev with
            | head w' st' fs' => exact absurd c2' (by rintro (q | q); exact oke.1 q; exact oke.2 q)
            | run wv os => exact ⟨wv, os, rfl⟩
            | fin fs' => exact absurd c2' fin_no
            | err k' n' => exact absurd c2' err_no
          have ane : acc ≠ [] := fun z => by
            rw [z] at py
            cases py
            exact absurd c1 (by decide)
          obtain ⟨la, hla⟩ : ∃ la, acc.getLast? = some la := ⟨_, List.getLast?_eq_getLast ane⟩
          obtain ⟨xl, hxl2, rl⟩ := Paired.last py hla
          obtain ⟨tl, vl, rfl, hl, hlt⟩ := id rl
          have hl3 := e3 _ _ hl
          have hy3 := e3 _ _ hy
          have ht3 := e3 _ _ ht
          refine ⟨_, rfl, _, rfl, q, _, _, _, rfl, rfl, SqL.of hy3, atI_last hxl2, tl, _, _, _, rfl, rfl, SqT.of hl3, at0 _ _, _, rfl, t, _, _, _, rfl, rfl, SqT.of ht3, at0 _ _, rfl, _, rfl, ?_⟩
          rw [dec_vs]
          refine ite2 (fun c3 => ?_) (fun c3 => ?_)
          · have c3' : la.nm = wv := of_decide_eq_true c3
            have c2'' : la.nm = "data" ∨ la.nm = "raw" := by rw [c3']; exact c2'
            obtain ⟨os', rfl⟩ : ∃ os', la = .run wv os' := by
              have ol := ok1 la (List.mem_of_getLast? hla)
              cases la with
              | head w' st' fs' => exact absurd c2'' (by rintro (q | q); exact ol.1 q; exact ol.2 q)
              | run w' os' => exact ⟨os', by rw [show w' = wv from c3']⟩
              | fin fs' => exact absurd c2'' fin_no
              | err k' n' => exact absurd c2'' err_no
            have ol := ok1 _ (List.mem_of_getLast? hla)
            obtain ⟨ao, rfl, hao⟩ := hlt
            obtain ⟨bo, rfl, hbo⟩ := htl
            have jm : joinS acc (.run wv os) = acc.dropLast ++ [.run wv (os' ++ os)] := by
              unfold joinS
              rw [hla]
              exact if_pos rfl
            refine ⟨_, rfl, Or.inl ⟨rfl, _, SqL.of hy3⟩, q, ys, .ref tl, rfl, rfl, hy3, hxl2, ?_⟩
            generalize upd (upd H1 n (.lst [])) m (.tup [.str "data", .str "raw"]) = H3 at *
            have nq : ∀ {b : Addr} {xs : List V}, H3 b = some (.tup xs) → b ≠ q := fun hb z => by
              rw [z, hy3] at hb
              cases hb
            have hl4 : (upd H3 q (.lst ys.dropLast)) tl = some (.tup [.str wv, .ref ao]) := (upd_ne (nq hl3)).trans hl3
            have ht4 : (upd H3 q (.lst ys.dropLast)) t = some (.tup [.str wv, .ref bo]) := (upd_ne (nq ht3)).trans ht3
            have ha4 : (upd H3 q (.lst ys.dropLast)) ao = some (.tup (os'.map V.int)) := (upd_ne (nq (e3 _ _ hao))).trans (e3 _ _ hao)
            have hb4 : (upd H3 q (.lst ys.dropLast)) bo = some (.tup (os.map V.int)) := (upd_ne (nq (e3 _ _ hbo))).trans (e3 _ _ hbo)
            refine ⟨tl, _, rfl, SqT.of hl4, rfl, _, _, rfl, _, _, rfl, rfl, ?_⟩
            have so : sumO (acc.dropLast ++ [.run wv (os' ++ os)]) ≤ 90000 := by
              rw [← jm, ← jn, sn]
              omega
            rw [sumO_app] at so
            simp only [sumO, List.length_append] at so
            refine ⟨_, rfl, _, rfl, _, rfl, t, _, _, _, rfl, rfl, SqT.of ht4, rfl, ao, bo, _, _, rfl, rfl, SqT.of ha4, SqT.of hb4, ?_, ?_, ?_, ?_⟩
            · intro z
              exact ol.2 (List.map_eq_nil_iff.mp z)
            · rw [List.length_map, List.length_map]
              exact small (by omega)
            · intro z
              exact absurd (List.map_eq_nil_iff.mp z) oke.2
            · intro _ m2 hm2
              refine ⟨by show 2 ≤ sizeLine; decide, fun n2 hn2 => ?_⟩
              have eH4 : Ex H (upd H3 q (.lst ys.dropLast)) := (e1.tr e3).mut hq
              have tk4 : Tk H3 (upd H3 q (.lst ys.dropLast)) := Tk.upd hy3 (fun _ z => by cases z)
              have hq4 : (upd H3 q (.lst ys.dropLast)) q = some (.lst ys.dropLast) := upd_same
              generalize upd H3 q (.lst ys.dropLast) = H4 at *
              have hq5 := (upd_ne (o := .tup (os'.map V.int ++ os.map V.int)) (ne_of_none hq4 hm2)).trans hq4
              have hq6 := (upd_ne (o := .tup [.str wv, .ref m2]) (ne_of_none hq5 hn2)).trans hq5
              refine ⟨_, rfl, Or.inl ⟨rfl, _, SqL.of hq6⟩, _, rfl, q, ys.dropLast, .ref n2, rfl, rfl, hq6, ?_, ?_⟩
              · rw [List.length_dropLast]
                omega
              · have m2n : m2 ≠ n2 := ne_of_none upd_same hn2
                have qm2 : q ≠ m2 := ne_of_none hq4 hm2
                have qn2 : q ≠ n2 := ne_of_none hq5 hn2
                refine ⟨_, _, _, ys.dropLast ++ [.ref n2], rfl, ((eH4.tr (Ex.new hm2)).tr (Ex.new hn2)).mut hq, upd_same, ?_, okn, sn, ln⟩
                rw [jn, jm]
                have t1 : Tk H1 (upd (upd H4 m2 (.tup (os'.map V.int ++ os.map V.int))) n2 (.tup [.str wv, .ref m2])) := (((Tk.of e3).tr tk4).tr (Tk.of (Ex.new hm2))).tr (Tk.of (Ex.new hn2))
                refine Paired.snoc (evs_mono (t1.tr (Tk.upd hq6 (fun _ z => by cases z))) (Paired.dropLast py)) ?_
                refine ⟨n2, [.ref m2], rfl, ?_, m2, rfl, ?_⟩
                · rw [upd_ne (Ne.symm qn2)]
                  exact upd_same
                · rw [upd_ne (Ne.symm qm2), upd_ne m2n, List.map_append]
                  exact upd_same
          · rw [Bool.not_eq_true] at c3
            have c3' : la.nm ≠ wv := of_decide_eq_false c3
            refine ⟨_, rfl, Or.inl ⟨rfl, _, SqL.of (e3 _ _ hy)⟩, _, rfl, q, ys, V.ref t, rfl, rfl, e3 _ _ hy, big, fin _ _ _ e3 ?_⟩
            unfold joinS
            rw [hla]
            cases la with
            | run w' os' => exact if_neg c3'
            | _ => rfl
        · rw [Bool.not_eq_true] at c2
          have c2' := of_decide_eq_false c2
          refine ⟨_, rfl, Or.inl ⟨rfl, _, SqL.of (e3 _ _ hy)⟩, _, rfl, q, ys, V.ref t, rfl, rfl, e3 _ _ hy, big, fin _ _ _ e3 ?_⟩
          unfold joinS
          cases ev with
          | run wv os => exact absurd oke.1 c2'
          | _ => rfl
      · refine ⟨_, rfl, Or.inl ⟨rfl, _, SqL.of (e2 _ _ hy)⟩, _, rfl, q, ys, V.ref t, rfl, rfl, e2 _ _ hy, big, fin _ _ _ e2 ?_⟩
        have : ys = [] := by simpa using c1
        have : acc = [] := List.eq_nil_of_length_eq_zero (by rw [← lys, this]; rfl)
        rw [this]
        cases ev <;> rfl
    · rintro σ H' ⟨v2, v3, v4, ys, rfl, e1, hy, py, _⟩
      rw [hxl, List.take_length] at py
      exact ⟨_, rfl, k q H' hq e1 ⟨ys, hy, py⟩⟩
end
end K32

namespace K32
open PySem PySem.Spec PyProof.Rows L2
/-! ### the reader: its mirror -/
structure Ask where
  method : Str
  up : Bool
  last : Bool
deriving DecidableEq
structure RS where
  now : Str
  part : Str
  count : Int
  line : List Int
  ending : Bool
  start : Stt
  fields : List Fld
  left : Int
  asks : List Ask
  msg : Ask
  last : Bool
deriving DecidableEq
def Ask.sw (m : Ask) : Bool := m.up || decide (m.method = "CONNECT")
abbrev REQS : Str := "requests"
abbrev RESPS : Str := "responses"
/-- a step's outcome: the state, the new events -/
abbrev Out : Type := RS × List Evt
def failM (k : Str) (s : RS) : Out := ({ s with now := "wrong" }, [.err k s.count])
def endMsg (kd : Str) (s : RS) (fs : List Fld) : Out :=
  (if kd = RESPS then { s with part := "", asks := s.asks.tail, now := if s.last || (s.asks.headD ⟨"", false, false⟩).last then "over" else "start" }
   else if s.msg.sw then { s with part := "", now := "waiting" } else { s with part := "", now := if s.last then "over" else "start" }, [.fin fs])
def beginBody (kd : Str) (s : RS) (fr : Fr) : Out :=
  match fr with
  | .info => ({ s with now := "start", part := "" }, [])
  | .chunked => ({ s with now := "body", part := "size" }, [])
  | .close => ({ s with now := "body", part := "rest", last := true }, [])
  | .switch => ({ (endMsg kd { s with now := "body", part := "" } []).1 with now := "raw" }, (endMsg kd { s with now := "body", part := "" } []).2)
  | .len n => if n = 0 then endMsg kd { s with now := "body", part := "" } [] else ({ s with now := "body", part := "length", left := n }, [])
/-- (state behind an error, its kind) or an outcome -/
abbrev OutX : Type := Except (RS × Str) Out
def Stt.ver : Stt → Int
  | .no => 0
  | .req _ _ v => v
  | .sta _ _ v => v
def Stt.meth : Stt → Str
  | .req a _ _ => a
  | _ => ""
def Stt.code : Stt → Int
  | .sta s _ _ => s
  | _ => 0
def headFr (kd : Str) (b : Bk) (st : Stt) (fs : List Fld) (a : Ask) : Except Str Fr := if kd = REQS then reqFr st.ver fs b else respFr st.code st.ver fs b a.method a.up
def endHead (kd : Str) (b : Bk) (s : RS) (fs : List Fld) : OutX :=
  match headFr kd b s.start fs (s.asks.headD ⟨"", false, false⟩) with
  | .error k => .error ({ s with last := !persB s.start.ver fs b }, k)
  | .ok fr =>
    if kd = REQS then .ok ((beginBody kd { s with last := !persB s.start.ver fs b, msg := ⟨s.start.meth, upB s.start.ver fs, !persB s.start.ver fs b⟩ } fr).1,
        .head "request" s.start fs :: (beginBody kd { s with last := !persB s.start.ver fs b, msg := ⟨s.start.meth, upB s.start.ver fs, !persB s.start.ver fs b⟩ } fr).2)
    else .ok ((beginBody kd { s with last := !persB s.start.ver fs b } fr).1,
        .head (if fr = .info then "info" else "response") s.start fs :: (beginBody kd { s with last := !persB s.start.ver fs b } fr).2)
def mStart (kd : Str) (z : Str) : Except Str Stt :=
  if kd = REQS then (match mReq z with | .ok (a, c, v) => .ok (.req a c v) | .error k => .error k)
  else (match mSta z with | .ok (a, c, v) => .ok (.sta a c v) | .error k => .error k)
def readLine (kd : Str) (b : Bk) (s : RS) (z : Str) : OutX :=
  if s.part = "size" then
    (match mSize z with
    | .error k => .error (s, k)
    | .ok n => .ok ({ s with left := n, part := if 0 < n then "chunk" else "trailers", fields := [] }, []))
  else if s.now = "start" then
    if z = "" ∧ kd = REQS then .ok (s, [])
    else (match mStart kd z with
    | .error k => .error (s, k)
    | .ok st => .ok ({ s with start := st, fields := [], now := "head" }, []))
  else if z ≠ "" then
    (match mField z with
    | none => .error (s, "field")
    | some f => if (s.fields.length : Int) = b.fields then .ok (failM "many" s) else .ok ({ s with fields := s.fields ++ [f] }, []))
  else if s.part = "trailers" then .ok (endMsg kd s s.fields)
  else endHead kd b s s.fields
def readLineEnd (kd : Str) (b : Bk) (s : RS) (o : Int) : Out :=
  if s.ending ≠ decide (o = 10) then failM "ending" s
  else if s.ending = false then ({ s with ending := true }, [])
  else match readLine kd b { s with ending := false, line := [] } (lineS s.line) with
    | .ok r => r
    | .error (s1, k) => failM k s1
def readChunkEnd (s : RS) (o : Int) : Out :=
  if o ≠ (if s.ending then 10 else 13) then failM "chunk" s
  else if s.ending then ({ s with ending := false, part := "size" }, []) else ({ s with ending := true }, [])
def readOctet (kd : Str) (b : Bk) (s : RS) (o : Int) : Out :=
  if s.now = "waiting" ∨ s.now = "over" then failM "extra" s
  else if s.now = "start" ∧ kd = RESPS ∧ s.asks = [] then failM "unasked" s
  else if s.part = "chunk end" then readChunkEnd s o
  else if s.ending = true ∨ o = 13 ∨ o = 10 then readLineEnd kd b s o
  else if octB o = false then failM "octet" s
  else if (s.line.length : Int) = b.line then failM "long" s
  else ({ s with line := s.line ++ [o] }, [])
/-- one octet of a body -/
def readRun (kd : Str) (s : RS) (o : Int) : Out :=
  if s.part = "rest" then (s, [.run "data" [o]])
  else if s.left - 1 = 0 then
    if s.part = "chunk" then ({ s with left := s.left - 1, part := "chunk end" }, [.run "data" [o]])
    else ((endMsg kd { s with left := s.left - 1 } []).1, .run "data" [o] :: (endMsg kd { s with left := s.left - 1 } []).2)
  else ({ s with left := s.left - 1 }, [.run "data" [o]])
def readSome (kd : Str) (b : Bk) (s : RS) (o : Int) : Out :=
  if s.now = "raw" then (s, [.run "raw" [o]])
  else if s.now = "body" ∧ (s.part = "length" ∨ s.part = "chunk" ∨ s.part = "rest") then readRun kd s o
  else readOctet kd b s o
/-- feed([o]) -/
def stepM (kd : Str) (b : Bk) (s : RS) (o : Int) : Out :=
  if s.now = "wrong" then ({ s with count := s.count + 1 }, [])
  else ({ (readSome kd b s o).1 with count := (readSome kd b s o).1.count + 1 }, (readSome kd b s o).2)
/-! ### the reader on the heap -/
/-- the addresses -/
structure RA where
  (bk ln st fl ex ms : Addr)
def rfs (kd : Str) (R : RA) (s : RS) : List (Str × V) := [("book", .ref R.bk), ("kind", .str kd), ("now", .str s.now), ("part", .str s.part), ("count", .int s.count), ("line", .ref R.ln), ("is_ending", .bl s.ending), ("start", .ref R.st), ("fields", .ref R.fl), ("left", .int s.left), ("expected", .ref R.ex), ("message", .ref R.ms), ("is_last", .bl s.last), ("skips_wait", .bl false), ("is_closed", .bl false)]
def mfs (m : Ask) : List (Str × V) := [("method", .str m.method), ("upgrade", .bl m.up), ("last", .bl m.last)]
theorem rfs_book (kd : Str) (R : RA) (s : RS) : (rfs kd R s).lookup ("book" : Str) = some (.ref R.bk) := by
  simp [rfs, List.lookup]
theorem rfs_kind (kd : Str) (R : RA) (s : RS) : (rfs kd R s).lookup ("kind" : Str) = some (.str kd) := by
  have h0 : (("kind" : Str) == "book") = false := by decide +kernel
  simp [rfs, List.lookup, h0]
theorem rfs_now (kd : Str) (R : RA) (s : RS) : (rfs kd R s).lookup ("now" : Str) = some (.str s.now) := by
  have h0 : (("now" : Str) == "book") = false := by decide +kernel
  have h1 : (("now" : Str) == "kind") = false := by decide +kernel
  simp [rfs, List.lookup, h0, h1]
theorem rfs_part (kd : Str) (R : RA) (s : RS) : (rfs kd R s).lookup ("part" : Str) = some (.str s.part) := by
  have h0 : (("part" : Str) == "book") = false := by decide +kernel
  have h1 : (("part" : Str) == "kind") = false := by decide +kernel
  have h2 : (("part" : Str) == "now") = false := by decide +kernel
  simp [rfs, List.lookup, h0, h1, h2]
theorem rfs_count (kd : Str) (R : RA) (s : RS) : (rfs kd R s).lookup ("count" : Str) = some (.int s.count) := by
  have h0 : (("count" : Str) == "book") = false := by decide +kernel
  have h1 : (("count" : Str) == "kind") = false := by decide +kernel
  have h2 : (("count" : Str) == "now") = false := by decide +kernel
  have h3 : (("count" : Str) == "part") = false := by decide +kernel
  simp [rfs, List.lookup, h0, h1, h2, h3]
theorem rfs_line (kd : Str) (R : RA) (s : RS) : (rfs kd R s).lookup ("line" : Str) = some (.ref R.ln) := by
  have h0 : (("line" : Str) == "book") = false := by decide +kernel
  have h1 : (("line" : Str) == "kind") = false := by decide +kernel
  have h2 : (("line" : Str) == "now") = false := by decide +kernel
  have h3 : (("line" : Str) == "part") = false := by decide +kernel
  have h4 : (("line" : Str) == "count") = false := by decide +kernel
  simp [rfs, List.lookup, h0, h1, h2, h3, h4]
theorem rfs_is_ending (kd : Str) (R : RA) (s : RS) : (rfs kd R s).lookup ("is_ending" : Str) = some (.bl s.ending) := by
  have h0 : (("is_ending" : Str) == "book") = false := by decide +kernel
  have h1 : (("is_ending" : Str) == "kind") = false := by decide +kernel
  have h2 : (("is_ending" : Str) == "now") = false := by decide +kernel
  have h3 : (("is_ending" : Str) == "part") = false := by decide +kernel
  have h4 : (("is_ending" : Str) == "count") = false := by decide +kernel
  have h5 : (("is_ending" : Str) == "line") = false := by decide +kernel
  simp [rfs, List.lookup, h0, h1, h2, h3, h4, h5]
theorem rfs_start (kd : Str) (R : RA) (s : RS) : (rfs kd R s).lookup ("start" : Str) = some (.ref R.st) := by
  have h0 : (("start" : Str) == "book") = false := by decide +kernel
  have h1 : (("start" : Str) == "kind") = false := by decide +kernel
  have h2 : (("start" : Str) == "now") = false := by decide +kernel
  have h3 : (("start" : Str) == "part") = false := by decide +kernel
  have h4 : (("start" : Str) == "count") = false := by decide +kernel
  have h5 : (("start" : Str) == "line") = false := by decide +kernel
  have h6 : (("start" : Str) == "is_ending") = false := by decide +kernel
  simp [rfs, List.lookup, h0, h1, h2, h3, h4, h5, h6]
theorem rfs_fields (kd : Str) (R : RA) (s : RS) : (rfs kd R s).lookup ("fields" : Str) = some (.ref R.fl) := by
  have h0 : (("fields" : Str) == "book") = false := by decide +kernel
  have h1 : (("fields" : Str) == "kind") = false := by decide +kernel
  have h2 : (("fields" : Str) == "now") = false := by decide +kernel
  have h3 : (("fields" : Str) == "part") = false := by decide +kernel
  have h4 : (("fields" : Str) == "count") = false := by decide +kernel
  have h5 : (("fields" : Str) == "line") = false := by decide +kernel
  have h6 : (("fields" : Str) == "is_ending") = false := by decide +kernel
  have h7 : (("fields" : Str) == "start") = false := by decide +kernel
  simp [rfs, List.lookup, h0, h1, h2, h3, h4, h5, h6, h7]
theorem rfs_left (kd : Str) (R : RA) (s : RS) : (rfs kd R s).lookup ("left" : Str) = some (.int s.left) := by
  have h0 : (("left" : Str) == "book") = false := by decide +kernel
  have h1 : (("left" : Str) == "kind") = false := by decide +kernel
  have h2 : (("left" : Str) == "now") = false := by decide +kernel
  have h3 : (("left" : Str) == "part") = false := by decide +kernel
  have h4 : (("left" : Str) == "count") = false := by decide +kernel
  have h5 : (("left" : Str) == "line") = false := by decide +kernel
  have h6 : (("left" : Str) == "is_ending") = false := by decide +kernel
  have h7 : (("left" : Str) == "start") = false := by decide +kernel
  have h8 : (("left" : Str) == "fields") = false := by decide +kernel
  simp [rfs, List.lookup, h0, h1, h2, h3, h4, h5, h6, h7, h8]
theorem rfs_expected (kd : Str) (R : RA) (s : RS) : (rfs kd R s).lookup ("expected" : Str) = some (.ref R.ex) := by
  have h0 : (("expected" : Str) == "book") = false := by decide +kernel
  have h1 : (("expected" : Str) == "kind") = false := by decide +kernel
  have h2 : (("expected" : Str) == "now") = false := by decide +kernel
  have h3 : (("expected" : Str) == "part") = false := by decide +kernel
  have h4 : (("expected" : Str) == "count") = false := by decide +kernel
  have h5 : (("expected" : Str) == "line") = false := by decide +kernel
  have h6 : (("expected" : Str) == "is_ending") = false := by decide +kernel
  have h7 : (("expected" : Str) == "start") = false := by decide +kernel
  have h8 : (("expected" : Str) == "fields") = false := by decide +kernel
  have h9 : (("expected" : Str) == "left") = false := by decide +kernel
  simp [rfs, List.lookup, h0, h1, h2, h3, h4, h5, h6, h7, h8, h9]
theorem rfs_message (kd : Str) (R : RA) (s : RS) : (rfs kd R s).lookup ("message" : Str) = some (.ref R.ms) := by
  have h0 : (("message" : Str) == "book") = false := by decide +kernel
  have h1 : (("message" : Str) == "kind") = false := by decide +kernel
  have h2 : (("message" : Str) == "now") = false := by decide +kernel
  have h3 : (("message" : Str) == "part") = false := by decide +kernel
  have h4 : (("message" : Str) == "count") = false := by decide +kernel
  have h5 : (("message" : Str) == "line") = false := by decide +kernel
  have h6 : (("message" : Str) == "is_ending") = false := by decide +kernel
  have h7 : (("message" : Str) == "start") = false := by decide +kernel
  have h8 : (("message" : Str) == "fields") = false := by decide +kernel
  have h9 : (("message" : Str) == "left") = false := by decide +kernel
  have h10 : (("message" : Str) == "expected") = false := by decide +kernel
  simp [rfs, List.lookup, h0, h1, h2, h3, h4, h5, h6, h7, h8, h9, h10]
theorem rfs_is_last (kd : Str) (R : RA) (s : RS) : (rfs kd R s).lookup ("is_last" : Str) = some (.bl s.last) := by
  have h0 : (("is_last" : Str) == "book") = false := by decide +kernel
  have h1 : (("is_last" : Str) == "kind") = false := by decide +kernel
  have h2 : (("is_last" : Str) == "now") = false := by decide +kernel
  have h3 : (("is_last" : Str) == "part") = false := by decide +kernel
  have h4 : (("is_last" : Str) == "count") = false := by decide +kernel
  have h5 : (("is_last" : Str) == "line") = false := by decide +kernel
  have h6 : (("is_last" : Str) == "is_ending") = false := by decide +kernel
  have h7 : (("is_last" : Str) == "start") = false := by decide +kernel
  have h8 : (("is_last" : Str) == "fields") = false := by decide +kernel
  have h9 : (("is_last" : Str) == "left") = false := by decide +kernel
  have h10 : (("is_last" : Str) == "expected") = false := by decide +kernel
  have h11 : (("is_last" : Str) == "message") = false := by decide +kernel
  simp [rfs, List.lookup, h0, h1, h2, h3, h4, h5, h6, h7, h8, h9, h10, h11]
theorem rfs_skips_wait (kd : Str) (R : RA) (s : RS) : (rfs kd R s).lookup ("skips_wait" : Str) = some (.bl false) := by
  have h0 : (("skips_wait" : Str) == "book") = false := by decide +kernel
  have h1 : (("skips_wait" : Str) == "kind") = false := by decide +kernel
  have h2 : (("skips_wait" : Str) == "now") = false := by decide +kernel
  have h3 : (("skips_wait" : Str) == "part") = false := by decide +kernel
  have h4 : (("skips_wait" : Str) == "count") = false := by decide +kernel
  have h5 : (("skips_wait" : Str) == "line") = false := by decide +kernel
  have h6 : (("skips_wait" : Str) == "is_ending") = false := by decide +kernel
  have h7 : (("skips_wait" : Str) == "start") = false := by decide +kernel
  have h8 : (("skips_wait" : Str) == "fields") = false := by decide +kernel
  have h9 : (("skips_wait" : Str) == "left") = false := by decide +kernel
  have h10 : (("skips_wait" : Str) == "expected") = false := by decide +kernel
  have h11 : (("skips_wait" : Str) == "message") = false := by decide +kernel
  have h12 : (("skips_wait" : Str) == "is_last") = false := by decide +kernel
  simp [rfs, List.lookup, h0, h1, h2, h3, h4, h5, h6, h7, h8, h9, h10, h11, h12]
theorem rfs_is_closed (kd : Str) (R : RA) (s : RS) : (rfs kd R s).lookup ("is_closed" : Str) = some (.bl false) := by
  have h0 : (("is_closed" : Str) == "book") = false := by decide +kernel
  have h1 : (("is_closed" : Str) == "kind") = false := by decide +kernel
  have h2 : (("is_closed" : Str) == "now") = false := by decide +kernel
  have h3 : (("is_closed" : Str) == "part") = false := by decide +kernel
  have h4 : (("is_closed" : Str) == "count") = false := by decide +kernel
  have h5 : (("is_closed" : Str) == "line") = false := by decide +kernel
  have h6 : (("is_closed" : Str) == "is_ending") = false := by decide +kernel
  have h7 : (("is_closed" : Str) == "start") = false := by decide +kernel
  have h8 : (("is_closed" : Str) == "fields") = false := by decide +kernel
  have h9 : (("is_closed" : Str) == "left") = false := by decide +kernel
  have h10 : (("is_closed" : Str) == "expected") = false := by decide +kernel
  have h11 : (("is_closed" : Str) == "message") = false := by decide +kernel
  have h12 : (("is_closed" : Str) == "is_last") = false := by decide +kernel
  have h13 : (("is_closed" : Str) == "skips_wait") = false := by decide +kernel
  simp [rfs, List.lookup, h0, h1, h2, h3, h4, h5, h6, h7, h8, h9, h10, h11, h12, h13]
theorem rfs_no_look_open (kd : Str) (R : RA) (s : RS) : (rfs kd R s).lookup ("look_open" : Str) = none := by
  have h0 : (("look_open" : Str) == "book") = false := by decide +kernel
  have h1 : (("look_open" : Str) == "kind") = false := by decide +kernel
  have h2 : (("look_open" : Str) == "now") = false := by decide +kernel
  have h3 : (("look_open" : Str) == "part") = false := by decide +kernel
  have h4 : (("look_open" : Str) == "count") = false := by decide +kernel
  have h5 : (("look_open" : Str) == "line") = false := by decide +kernel
  have h6 : (("look_open" : Str) == "is_ending") = false := by decide +kernel
  have h7 : (("look_open" : Str) == "start") = false := by decide +kernel
  have h8 : (("look_open" : Str) == "fields") = false := by decide +kernel
  have h9 : (("look_open" : Str) == "left") = false := by decide +kernel
  have h10 : (("look_open" : Str) == "expected") = false := by decide +kernel
  have h11 : (("look_open" : Str) == "message") = false := by decide +kernel
  have h12 : (("look_open" : Str) == "is_last") = false := by decide +kernel
  have h13 : (("look_open" : Str) == "skips_wait") = false := by decide +kernel
  have h14 : (("look_open" : Str) == "is_closed") = false := by decide +kernel
  simp [rfs, List.lookup, h0, h1, h2, h3, h4, h5, h6, h7, h8, h9, h10, h11, h12, h13, h14]
theorem rfs_no_read_some (kd : Str) (R : RA) (s : RS) : (rfs kd R s).lookup ("read_some" : Str) = none := by
  have h0 : (("read_some" : Str) == "book") = false := by decide +kernel
  have h1 : (("read_some" : Str) == "kind") = false := by decide +kernel
  have h2 : (("read_some" : Str) == "now") = false := by decide +kernel
  have h3 : (("read_some" : Str) == "part") = false := by decide +kernel
  have h4 : (("read_some" : Str) == "count") = false := by decide +kernel
  have h5 : (("read_some" : Str) == "line") = false := by decide +kernel
  have h6 : (("read_some" : Str) == "is_ending") = false := by decide +kernel
  have h7 : (("read_some" : Str) == "start") = false := by decide +kernel
  have h8 : (("read_some" : Str) == "fields") = false := by decide +kernel
  have h9 : (("read_some" : Str) == "left") = false := by decide +kernel
  have h10 : (("read_some" : Str) == "expected") = false := by decide +kernel
  have h11 : (("read_some" : Str) == "message") = false := by decide +kernel
  have h12 : (("read_some" : Str) == "is_last") = false := by decide +kernel
  have h13 : (("read_some" : Str) == "skips_wait") = false := by decide +kernel
  have h14 : (("read_some" : Str) == "is_closed") = false := by decide +kernel
  simp [rfs, List.lookup, h0, h1, h2, h3, h4, h5, h6, h7, h8, h9, h10, h11, h12, h13, h14]
theorem rfs_no_read_run (kd : Str) (R : RA) (s : RS) : (rfs kd R s).lookup ("read_run" : Str) = none := by
  have h0 : (("read_run" : Str) == "book") = false := by decide +kernel
  have h1 : (("read_run" : Str) == "kind") = false := by decide +kernel
  have h2 : (("read_run" : Str) == "now") = false := by decide +kernel
  have h3 : (("read_run" : Str) == "part") = false := by decide +kernel
  have h4 : (("read_run" : Str) == "count") = false := by decide +kernel
  have h5 : (("read_run" : Str) == "line") = false := by decide +kernel
  have h6 : (("read_run" : Str) == "is_ending") = false := by decide +kernel
  have h7 : (("read_run" : Str) == "start") = false := by decide +kernel
  have h8 : (("read_run" : Str) == "fields") = false := by decide +kernel
  have h9 : (("read_run" : Str) == "left") = false := by decide +kernel
  have h10 : (("read_run" : Str) == "expected") = false := by decide +kernel
  have h11 : (("read_run" : Str) == "message") = false := by decide +kernel
  have h12 : (("read_run" : Str) == "is_last") = false := by decide +kernel
  have h13 : (("read_run" : Str) == "skips_wait") = false := by decide +kernel
  have h14 : (("read_run" : Str) == "is_closed") = false := by decide +kernel
  simp [rfs, List.lookup, h0, h1, h2, h3, h4, h5, h6, h7, h8, h9, h10, h11, h12, h13, h14]
theorem rfs_no_fail (kd : Str) (R : RA) (s : RS) : (rfs kd R s).lookup ("fail" : Str) = none := by
  have h0 : (("fail" : Str) == "book") = false := by decide +kernel
  have h1 : (("fail" : Str) == "kind") = false := by decide +kernel
  have h2 : (("fail" : Str) == "now") = false := by decide +kernel
  have h3 : (("fail" : Str) == "part") = false := by decide +kernel
  have h4 : (("fail" : Str) == "count") = false := by decide +kernel
  have h5 : (("fail" : Str) == "line") = false := by decide +kernel
  have h6 : (("fail" : Str) == "is_ending") = false := by decide +kernel
  have h7 : (("fail" : Str) == "start") = false := by decide +kernel
  have h8 : (("fail" : Str) == "fields") = false := by decide +kernel
  have h9 : (("fail" : Str) == "left") = false := by decide +kernel
  have h10 : (("fail" : Str) == "expected") = false := by decide +kernel
  have h11 : (("fail" : Str) == "message") = false := by decide +kernel
  have h12 : (("fail" : Str) == "is_last") = false := by decide +kernel
  have h13 : (("fail" : Str) == "skips_wait") = false := by decide +kernel
  have h14 : (("fail" : Str) == "is_closed") = false := by decide +kernel
  simp [rfs, List.lookup, h0, h1, h2, h3, h4, h5, h6, h7, h8, h9, h10, h11, h12, h13, h14]
theorem rfs_no_read_octet (kd : Str) (R : RA) (s : RS) : (rfs kd R s).lookup ("read_octet" : Str) = none := by
  have h0 : (("read_octet" : Str) == "book") = false := by decide +kernel
  have h1 : (("read_octet" : Str) == "kind") = false := by decide +kernel
  have h2 : (("read_octet" : Str) == "now") = false := by decide +kernel
  have h3 : (("read_octet" : Str) == "part") = false := by decide +kernel
  have h4 : (("read_octet" : Str) == "count") = false := by decide +kernel
  have h5 : (("read_octet" : Str) == "line") = false := by decide +kernel
  have h6 : (("read_octet" : Str) == "is_ending") = false := by decide +kernel
  have h7 : (("read_octet" : Str) == "start") = false := by decide +kernel
  have h8 : (("read_octet" : Str) == "fields") = false := by decide +kernel
  have h9 : (("read_octet" : Str) == "left") = false := by decide +kernel
  have h10 : (("read_octet" : Str) == "expected") = false := by decide +kernel
  have h11 : (("read_octet" : Str) == "message") = false := by decide +kernel
  have h12 : (("read_octet" : Str) == "is_last") = false := by decide +kernel
  have h13 : (("read_octet" : Str) == "skips_wait") = false := by decide +kernel
  have h14 : (("read_octet" : Str) == "is_closed") = false := by decide +kernel
  simp [rfs, List.lookup, h0, h1, h2, h3, h4, h5, h6, h7, h8, h9, h10, h11, h12, h13, h14]
theorem rfs_no_read_chunk_end (kd : Str) (R : RA) (s : RS) : (rfs kd R s).lookup ("read_chunk_end" : Str) = none := by
  have h0 : (("read_chunk_end" : Str) == "book") = false := by decide +kernel
  have h1 : (("read_chunk_end" : Str) == "kind") = false := by decide +kernel
  have h2 : (("read_chunk_end" : Str) == "now") = false := by decide +kernel
  have h3 : (("read_chunk_end" : Str) == "part") = false := by decide +kernel
  have h4 : (("read_chunk_end" : Str) == "count") = false := by decide +kernel
  have h5 : (("read_chunk_end" : Str) == "line") = false := by decide +kernel
  have h6 : (("read_chunk_end" : Str) == "is_ending") = false := by decide +kernel
  have h7 : (("read_chunk_end" : Str) == "start") = false := by decide +kernel
  have h8 : (("read_chunk_end" : Str) == "fields") = false := by decide +kernel
  have h9 : (("read_chunk_end" : Str) == "left") = false := by decide +kernel
  have h10 : (("read_chunk_end" : Str) == "expected") = false := by decide +kernel
  have h11 : (("read_chunk_end" : Str) == "message") = false := by decide +kernel
  have h12 : (("read_chunk_end" : Str) == "is_last") = false := by decide +kernel
  have h13 : (("read_chunk_end" : Str) == "skips_wait") = false := by decide +kernel
  have h14 : (("read_chunk_end" : Str) == "is_closed") = false := by decide +kernel
  simp [rfs, List.lookup, h0, h1, h2, h3, h4, h5, h6, h7, h8, h9, h10, h11, h12, h13, h14]
theorem rfs_no_read_line_end (kd : Str) (R : RA) (s : RS) : (rfs kd R s).lookup ("read_line_end" : Str) = none := by
  have h0 : (("read_line_end" : Str) == "book") = false := by decide +kernel
  have h1 : (("read_line_end" : Str) == "kind") = false := by decide +kernel
  have h2 : (("read_line_end" : Str) == "now") = false := by decide +kernel
  have h3 : (("read_line_end" : Str) == "part") = false := by decide +kernel
  have h4 : (("read_line_end" : Str) == "count") = false := by decide +kernel
  have h5 : (("read_line_end" : Str) == "line") = false := by decide +kernel
  have h6 : (("read_line_end" : Str) == "is_ending") = false := by decide +kernel
  have h7 : (("read_line_end" : Str) == "start") = false := by decide +kernel
  have h8 : (("read_line_end" : Str) == "fields") = false := by decide +kernel
  have h9 : (("read_line_end" : Str) == "left") = false := by decide +kernel
  have h10 : (("read_line_end" : Str) == "expected") = false := by decide +kernel
  have h11 : (("read_line_end" : Str) == "message") = false := by decide +kernel
  have h12 : (("read_line_end" : Str) == "is_last") = false := by decide +kernel
  have h13 : (("read_line_end" : Str) == "skips_wait") = false := by decide +kernel
  have h14 : (("read_line_end" : Str) == "is_closed") = false := by decide +kernel
  simp [rfs, List.lookup, h0, h1, h2, h3, h4, h5, h6, h7, h8, h9, h10, h11, h12, h13, h14]
theorem rfs_no_read_line (kd : Str) (R : RA) (s : RS) : (rfs kd R s).lookup ("read_line" : Str) = none := by
  have h0 : (("read_line" : Str) == "book") = false := by decide +kernel
  have h1 : (("read_line" : Str) == "kind") = false := by decide +kernel
  have h2 : (("read_line" : Str) == "now") = false := by decide +kernel
  have h3 : (("read_line" : Str) == "part") = false := by decide +kernel
  have h4 : (("read_line" : Str) == "count") = false := by decide +kernel
  have h5 : (("read_line" : Str) == "line") = false := by decide +kernel
  have h6 : (("read_line" : Str) == "is_ending") = false := by decide +kernel
  have h7 : (("read_line" : Str) == "start") = false := by decide +kernel
  have h8 : (("read_line" : Str) == "fields") = false := by decide +kernel
  have h9 : (("read_line" : Str) == "left") = false := by decide +kernel
  have h10 : (("read_line" : Str) == "expected") = false := by decide +kernel
  have h11 : (("read_line" : Str) == "message") = false := by decide +kernel
  have h12 : (("read_line" : Str) == "is_last") = false := by decide +kernel
  have h13 : (("read_line" : Str) == "skips_wait") = false := by decide +kernel
  have h14 : (("read_line" : Str) == "is_closed") = false := by decide +kernel
  simp [rfs, List.lookup, h0, h1, h2, h3, h4, h5, h6, h7, h8, h9, h10, h11, h12, h13, h14]
theorem rfs_no_begin_chunk (kd : Str) (R : RA) (s : RS) : (rfs kd R s).lookup ("begin_chunk" : Str) = none := by
  have h0 : (("begin_chunk" : Str) == "book") = false := by decide +kernel
  have h1 : (("begin_chunk" : Str) == "kind") = false := by decide +kernel
  have h2 : (("begin_chunk" : Str) == "now") = false := by decide +kernel
  have h3 : (("begin_chunk" : Str) == "part") = false := by decide +kernel
  have h4 : (("begin_chunk" : Str) == "count") = false := by decide +kernel
  have h5 : (("begin_chunk" : Str) == "line") = false := by decide +kernel
  have h6 : (("begin_chunk" : Str) == "is_ending") = false := by decide +kernel
  have h7 : (("begin_chunk" : Str) == "start") = false := by decide +kernel
  have h8 : (("begin_chunk" : Str) == "fields") = false := by decide +kernel
  have h9 : (("begin_chunk" : Str) == "left") = false := by decide +kernel
  have h10 : (("begin_chunk" : Str) == "expected") = false := by decide +kernel
  have h11 : (("begin_chunk" : Str) == "message") = false := by decide +kernel
  have h12 : (("begin_chunk" : Str) == "is_last") = false := by decide +kernel
  have h13 : (("begin_chunk" : Str) == "skips_wait") = false := by decide +kernel
  have h14 : (("begin_chunk" : Str) == "is_closed") = false := by decide +kernel
  simp [rfs, List.lookup, h0, h1, h2, h3, h4, h5, h6, h7, h8, h9, h10, h11, h12, h13, h14]
theorem rfs_no_read_start (kd : Str) (R : RA) (s : RS) : (rfs kd R s).lookup ("read_start" : Str) = none := by
  have h0 : (("read_start" : Str) == "book") = false := by decide +kernel
  have h1 : (("read_start" : Str) == "kind") = false := by decide +kernel
  have h2 : (("read_start" : Str) == "now") = false := by decide +kernel
  have h3 : (("read_start" : Str) == "part") = false := by decide +kernel
  have h4 : (("read_start" : Str) == "count") = false := by decide +kernel
  have h5 : (("read_start" : Str) == "line") = false := by decide +kernel
  have h6 : (("read_start" : Str) == "is_ending") = false := by decide +kernel
  have h7 : (("read_start" : Str) == "start") = false := by decide +kernel
  have h8 : (("read_start" : Str) == "fields") = false := by decide +kernel
  have h9 : (("read_start" : Str) == "left") = false := by decide +kernel
  have h10 : (("read_start" : Str) == "expected") = false := by decide +kernel
  have h11 : (("read_start" : Str) == "message") = false := by decide +kernel
  have h12 : (("read_start" : Str) == "is_last") = false := by decide +kernel
  have h13 : (("read_start" : Str) == "skips_wait") = false := by decide +kernel
  have h14 : (("read_start" : Str) == "is_closed") = false := by decide +kernel
  simp [rfs, List.lookup, h0, h1, h2, h3, h4, h5, h6, h7, h8, h9, h10, h11, h12, h13, h14]
theorem rfs_no_read_field_line (kd : Str) (R : RA) (s : RS) : (rfs kd R s).lookup ("read_field_line" : Str) = none := by
  have h0 : (("read_field_line" : Str) == "book") = false := by decide +kernel
  have h1 : (("read_field_line" : Str) == "kind") = false := by decide +kernel
  have h2 : (("read_field_line" : Str) == "now") = false := by decide +kernel
  have h3 : (("read_field_line" : Str) == "part") = false := by decide +kernel
  have h4 : (("read_field_line" : Str) == "count") = false := by decide +kernel
  have h5 : (("read_field_line" : Str) == "line") = false := by decide +kernel
  have h6 : (("read_field_line" : Str) == "is_ending") = false := by decide +kernel
  have h7 : (("read_field_line" : Str) == "start") = false := by decide +kernel
  have h8 : (("read_field_line" : Str) == "fields") = false := by decide +kernel
  have h9 : (("read_field_line" : Str) == "left") = false := by decide +kernel
  have h10 : (("read_field_line" : Str) == "expected") = false := by decide +kernel
  have h11 : (("read_field_line" : Str) == "message") = false := by decide +kernel
  have h12 : (("read_field_line" : Str) == "is_last") = false := by decide +kernel
  have h13 : (("read_field_line" : Str) == "skips_wait") = false := by decide +kernel
  have h14 : (("read_field_line" : Str) == "is_closed") = false := by decide +kernel
  simp [rfs, List.lookup, h0, h1, h2, h3, h4, h5, h6, h7, h8, h9, h10, h11, h12, h13, h14]
theorem rfs_no_end_head (kd : Str) (R : RA) (s : RS) : (rfs kd R s).lookup ("end_head" : Str) = none := by
  have h0 : (("end_head" : Str) == "book") = false := by decide +kernel
  have h1 : (("end_head" : Str) == "kind") = false := by decide +kernel
  have h2 : (("end_head" : Str) == "now") = false := by decide +kernel
  have h3 : (("end_head" : Str) == "part") = false := by decide +kernel
  have h4 : (("end_head" : Str) == "count") = false := by decide +kernel
  have h5 : (("end_head" : Str) == "line") = false := by decide +kernel
  have h6 : (("end_head" : Str) == "is_ending") = false := by decide +kernel
  have h7 : (("end_head" : Str) == "start") = false := by decide +kernel
  have h8 : (("end_head" : Str) == "fields") = false := by decide +kernel
  have h9 : (("end_head" : Str) == "left") = false := by decide +kernel
  have h10 : (("end_head" : Str) == "expected") = false := by decide +kernel
  have h11 : (("end_head" : Str) == "message") = false := by decide +kernel
  have h12 : (("end_head" : Str) == "is_last") = false := by decide +kernel
  have h13 : (("end_head" : Str) == "skips_wait") = false := by decide +kernel
  have h14 : (("end_head" : Str) == "is_closed") = false := by decide +kernel
  simp [rfs, List.lookup, h0, h1, h2, h3, h4, h5, h6, h7, h8, h9, h10, h11, h12, h13, h14]
theorem rfs_no_begin_body (kd : Str) (R : RA) (s : RS) : (rfs kd R s).lookup ("begin_body" : Str) = none := by
  have h0 : (("begin_body" : Str) == "book") = false := by decide +kernel
  have h1 : (("begin_body" : Str) == "kind") = false := by decide +kernel
  have h2 : (("begin_body" : Str) == "now") = false := by decide +kernel
  have h3 : (("begin_body" : Str) == "part") = false := by decide +kernel
  have h4 : (("begin_body" : Str) == "count") = false := by decide +kernel
  have h5 : (("begin_body" : Str) == "line") = false := by decide +kernel
  have h6 : (("begin_body" : Str) == "is_ending") = false := by decide +kernel
  have h7 : (("begin_body" : Str) == "start") = false := by decide +kernel
  have h8 : (("begin_body" : Str) == "fields") = false := by decide +kernel
  have h9 : (("begin_body" : Str) == "left") = false := by decide +kernel
  have h10 : (("begin_body" : Str) == "expected") = false := by decide +kernel
  have h11 : (("begin_body" : Str) == "message") = false := by decide +kernel
  have h12 : (("begin_body" : Str) == "is_last") = false := by decide +kernel
  have h13 : (("begin_body" : Str) == "skips_wait") = false := by decide +kernel
  have h14 : (("begin_body" : Str) == "is_closed") = false := by decide +kernel
  simp [rfs, List.lookup, h0, h1, h2, h3, h4, h5, h6, h7, h8, h9, h10, h11, h12, h13, h14]
theorem rfs_no_end_message (kd : Str) (R : RA) (s : RS) : (rfs kd R s).lookup ("end_message" : Str) = none := by
  have h0 : (("end_message" : Str) == "book") = false := by decide +kernel
  have h1 : (("end_message" : Str) == "kind") = false := by decide +kernel
  have h2 : (("end_message" : Str) == "now") = false := by decide +kernel
  have h3 : (("end_message" : Str) == "part") = false := by decide +kernel
  have h4 : (("end_message" : Str) == "count") = false := by decide +kernel
  have h5 : (("end_message" : Str) == "line") = false := by decide +kernel
  have h6 : (("end_message" : Str) == "is_ending") = false := by decide +kernel
  have h7 : (("end_message" : Str) == "start") = false := by decide +kernel
  have h8 : (("end_message" : Str) == "fields") = false := by decide +kernel
  have h9 : (("end_message" : Str) == "left") = false := by decide +kernel
  have h10 : (("end_message" : Str) == "expected") = false := by decide +kernel
  have h11 : (("end_message" : Str) == "message") = false := by decide +kernel
  have h12 : (("end_message" : Str) == "is_last") = false := by decide +kernel
  have h13 : (("end_message" : Str) == "skips_wait") = false := by decide +kernel
  have h14 : (("end_message" : Str) == "is_closed") = false := by decide +kernel
  simp [rfs, List.lookup, h0, h1, h2, h3, h4, h5, h6, h7, h8, h9, h10, h11, h12, h13, h14]
theorem rfs_no_expect (kd : Str) (R : RA) (s : RS) : (rfs kd R s).lookup ("expect" : Str) = none := by
  have h0 : (("expect" : Str) == "book") = false := by decide +kernel
  have h1 : (("expect" : Str) == "kind") = false := by decide +kernel
  have h2 : (("expect" : Str) == "now") = false := by decide +kernel
  have h3 : (("expect" : Str) == "part") = false := by decide +kernel
  have h4 : (("expect" : Str) == "count") = false := by decide +kernel
  have h5 : (("expect" : Str) == "line") = false := by decide +kernel
  have h6 : (("expect" : Str) == "is_ending") = false := by decide +kernel
  have h7 : (("expect" : Str) == "start") = false := by decide +kernel
  have h8 : (("expect" : Str) == "fields") = false := by decide +kernel
  have h9 : (("expect" : Str) == "left") = false := by decide +kernel
  have h10 : (("expect" : Str) == "expected") = false := by decide +kernel
  have h11 : (("expect" : Str) == "message") = false := by decide +kernel
  have h12 : (("expect" : Str) == "is_last") = false := by decide +kernel
  have h13 : (("expect" : Str) == "skips_wait") = false := by decide +kernel
  have h14 : (("expect" : Str) == "is_closed") = false := by decide +kernel
  simp [rfs, List.lookup, h0, h1, h2, h3, h4, h5, h6, h7, h8, h9, h10, h11, h12, h13, h14]
theorem rfs_no_feed (kd : Str) (R : RA) (s : RS) : (rfs kd R s).lookup ("feed" : Str) = none := by
  have h0 : (("feed" : Str) == "book") = false := by decide +kernel
  have h1 : (("feed" : Str) == "kind") = false := by decide +kernel
  have h2 : (("feed" : Str) == "now") = false := by decide +kernel
  have h3 : (("feed" : Str) == "part") = false := by decide +kernel
  have h4 : (("feed" : Str) == "count") = false := by decide +kernel
  have h5 : (("feed" : Str) == "line") = false := by decide +kernel
  have h6 : (("feed" : Str) == "is_ending") = false := by decide +kernel
  have h7 : (("feed" : Str) == "start") = false := by decide +kernel
  have h8 : (("feed" : Str) == "fields") = false := by decide +kernel
  have h9 : (("feed" : Str) == "left") = false := by decide +kernel
  have h10 : (("feed" : Str) == "expected") = false := by decide +kernel
  have h11 : (("feed" : Str) == "message") = false := by decide +kernel
  have h12 : (("feed" : Str) == "is_last") = false := by decide +kernel
  have h13 : (("feed" : Str) == "skips_wait") = false := by decide +kernel
  have h14 : (("feed" : Str) == "is_closed") = false := by decide +kernel
  simp [rfs, List.lookup, h0, h1, h2, h3, h4, h5, h6, h7, h8, h9, h10, h11, h12, h13, h14]

theorem put_now (kd : Str) (R : RA) (s : RS) (z : Str) : putF ("now" : Str) (.str z) (rfs kd R s) = rfs kd R { s with now := z } := by
  have h0 : ¬ (("book" : Str) = "now") := by decide +kernel
  have h1 : ¬ (("kind" : Str) = "now") := by decide +kernel
  simp [rfs, putF, h0, h1]
theorem put_part (kd : Str) (R : RA) (s : RS) (z : Str) : putF ("part" : Str) (.str z) (rfs kd R s) = rfs kd R { s with part := z } := by
  have h0 : ¬ (("book" : Str) = "part") := by decide +kernel
  have h1 : ¬ (("kind" : Str) = "part") := by decide +kernel
  have h2 : ¬ (("now" : Str) = "part") := by decide +kernel
  simp [rfs, putF, h0, h1, h2]
theorem put_count (kd : Str) (R : RA) (s : RS) (z : Int) : putF ("count" : Str) (.int z) (rfs kd R s) = rfs kd R { s with count := z } := by
  have h0 : ¬ (("book" : Str) = "count") := by decide +kernel
  have h1 : ¬ (("kind" : Str) = "count") := by decide +kernel
  have h2 : ¬ (("now" : Str) = "count") := by decide +kernel
  have h3 : ¬ (("part" : Str) = "count") := by decide +kernel
  simp [rfs, putF, h0, h1, h2, h3]
theorem put_line (kd : Str) (R : RA) (s : RS) (z : Addr) : putF ("line" : Str) (.ref z) (rfs kd R s) = rfs kd { R with ln := z } s := by
  have h0 : ¬ (("book" : Str) = "line") := by decide +kernel
  have h1 : ¬ (("kind" : Str) = "line") := by decide +kernel
  have h2 : ¬ (("now" : Str) = "line") := by decide +kernel
  have h3 : ¬ (("part" : Str) = "line") := by decide +kernel
  have h4 : ¬ (("count" : Str) = "line") := by decide +kernel
  simp [rfs, putF, h0, h1, h2, h3, h4]
theorem put_is_ending (kd : Str) (R : RA) (s : RS) (z : Bool) : putF ("is_ending" : Str) (.bl z) (rfs kd R s) = rfs kd R { s with ending := z } := by
  have h0 : ¬ (("book" : Str) = "is_ending") := by decide +kernel
  have h1 : ¬ (("kind" : Str) = "is_ending") := by decide +kernel
  have h2 : ¬ (("now" : Str) = "is_ending") := by decide +kernel
  have h3 : ¬ (("part" : Str) = "is_ending") := by decide +kernel
  have h4 : ¬ (("count" : Str) = "is_ending") := by decide +kernel
  have h5 : ¬ (("line" : Str) = "is_ending") := by decide +kernel
  simp [rfs, putF, h0, h1, h2, h3, h4, h5]
theorem put_start (kd : Str) (R : RA) (s : RS) (z : Addr) : putF ("start" : Str) (.ref z) (rfs kd R s) = rfs kd { R with st := z } s := by
  have h0 : ¬ (("book" : Str) = "start") := by decide +kernel
  have h1 : ¬ (("kind" : Str) = "start") := by decide +kernel
  have h2 : ¬ (("now" : Str) = "start") := by decide +kernel
  have h3 : ¬ (("part" : Str) = "start") := by decide +kernel
  have h4 : ¬ (("count" : Str) = "start") := by decide +kernel
  have h5 : ¬ (("line" : Str) = "start") := by decide +kernel
  have h6 : ¬ (("is_ending" : Str) = "start") := by decide +kernel
  simp [rfs, putF, h0, h1, h2, h3, h4, h5, h6]
theorem put_fields (kd : Str) (R : RA) (s : RS) (z : Addr) : putF ("fields" : Str) (.ref z) (rfs kd R s) = rfs kd { R with fl := z } s := by
  have h0 : ¬ (("book" : Str) = "fields") := by decide +kernel
  have h1 : ¬ (("kind" : Str) = "fields") := by decide +kernel
  have h2 : ¬ (("now" : Str) = "fields") := by decide +kernel
  have h3 : ¬ (("part" : Str) = "fields") := by decide +kernel
  have h4 : ¬ (("count" : Str) = "fields") := by decide +kernel
  have h5 : ¬ (("line" : Str) = "fields") := by decide +kernel
  have h6 : ¬ (("is_ending" : Str) = "fields") := by decide +kernel
  have h7 : ¬ (("start" : Str) = "fields") := by decide +kernel
  simp [rfs, putF, h0, h1, h2, h3, h4, h5, h6, h7]
theorem put_left (kd : Str) (R : RA) (s : RS) (z : Int) : putF ("left" : Str) (.int z) (rfs kd R s) = rfs kd R { s with left := z } := by
  have h0 : ¬ (("book" : Str) = "left") := by decide +kernel
  have h1 : ¬ (("kind" : Str) = "left") := by decide +kernel
  have h2 : ¬ (("now" : Str) = "left") := by decide +kernel
  have h3 : ¬ (("part" : Str) = "left") := by decide +kernel
  have h4 : ¬ (("count" : Str) = "left") := by decide +kernel
  have h5 : ¬ (("line" : Str) = "left") := by decide +kernel
  have h6 : ¬ (("is_ending" : Str) = "left") := by decide +kernel
  have h7 : ¬ (("start" : Str) = "left") := by decide +kernel
  have h8 : ¬ (("fields" : Str) = "left") := by decide +kernel
  simp [rfs, putF, h0, h1, h2, h3, h4, h5, h6, h7, h8]
theorem put_message (kd : Str) (R : RA) (s : RS) (z : Addr) : putF ("message" : Str) (.ref z) (rfs kd R s) = rfs kd { R with ms := z } s := by
  have h0 : ¬ (("book" : Str) = "message") := by decide +kernel
  have h1 : ¬ (("kind" : Str) = "message") := by decide +kernel
  have h2 : ¬ (("now" : Str) = "message") := by decide +kernel
  have h3 : ¬ (("part" : Str) = "message") := by decide +kernel
  have h4 : ¬ (("count" : Str) = "message") := by decide +kernel
  have h5 : ¬ (("line" : Str) = "message") := by decide +kernel
  have h6 : ¬ (("is_ending" : Str) = "message") := by decide +kernel
  have h7 : ¬ (("start" : Str) = "message") := by decide +kernel
  have h8 : ¬ (("fields" : Str) = "message") := by decide +kernel
  have h9 : ¬ (("left" : Str) = "message") := by decide +kernel
  have h10 : ¬ (("expected" : Str) = "message") := by decide +kernel
  simp [rfs, putF, h0, h1, h2, h3, h4, h5, h6, h7, h8, h9, h10]
theorem put_is_last (kd : Str) (R : RA) (s : RS) (z : Bool) : putF ("is_last" : Str) (.bl z) (rfs kd R s) = rfs kd R { s with last := z } := by
  have h0 : ¬ (("book" : Str) = "is_last") := by decide +kernel
  have h1 : ¬ (("kind" : Str) = "is_last") := by decide +kernel
  have h2 : ¬ (("now" : Str) = "is_last") := by decide +kernel
  have h3 : ¬ (("part" : Str) = "is_last") := by decide +kernel
  have h4 : ¬ (("count" : Str) = "is_last") := by decide +kernel
  have h5 : ¬ (("line" : Str) = "is_last") := by decide +kernel
  have h6 : ¬ (("is_ending" : Str) = "is_last") := by decide +kernel
  have h7 : ¬ (("start" : Str) = "is_last") := by decide +kernel
  have h8 : ¬ (("fields" : Str) = "is_last") := by decide +kernel
  have h9 : ¬ (("left" : Str) = "is_last") := by decide +kernel
  have h10 : ¬ (("expected" : Str) = "is_last") := by decide +kernel
  have h11 : ¬ (("message" : Str) = "is_last") := by decide +kernel
  simp [rfs, putF, h0, h1, h2, h3, h4, h5, h6, h7, h8, h9, h10, h11]
theorem put_skips_wait (kd : Str) (R : RA) (s : RS) : putF ("skips_wait" : Str) (.bl false) (rfs kd R s) = rfs kd R s := by
  have h0 : ¬ (("book" : Str) = "skips_wait") := by decide +kernel
  have h1 : ¬ (("kind" : Str) = "skips_wait") := by decide +kernel
  have h2 : ¬ (("now" : Str) = "skips_wait") := by decide +kernel
  have h3 : ¬ (("part" : Str) = "skips_wait") := by decide +kernel
  have h4 : ¬ (("count" : Str) = "skips_wait") := by decide +kernel
  have h5 : ¬ (("line" : Str) = "skips_wait") := by decide +kernel
  have h6 : ¬ (("is_ending" : Str) = "skips_wait") := by decide +kernel
  have h7 : ¬ (("start" : Str) = "skips_wait") := by decide +kernel
  have h8 : ¬ (("fields" : Str) = "skips_wait") := by decide +kernel
  have h9 : ¬ (("left" : Str) = "skips_wait") := by decide +kernel
  have h10 : ¬ (("expected" : Str) = "skips_wait") := by decide +kernel
  have h11 : ¬ (("message" : Str) = "skips_wait") := by decide +kernel
  have h12 : ¬ (("is_last" : Str) = "skips_wait") := by decide +kernel
  simp [rfs, putF, h0, h1, h2, h3, h4, h5, h6, h7, h8, h9, h10, h11, h12]

theorem mfs_method (m : Ask) : (mfs m).lookup ("method" : Str) = some (.str m.method) := by
  simp [mfs, List.lookup]
theorem mfs_upgrade (m : Ask) : (mfs m).lookup ("upgrade" : Str) = some (.bl m.up) := by
  have h0 : (("upgrade" : Str) == "method") = false := by decide +kernel
  simp [mfs, List.lookup, h0]
theorem mfs_last (m : Ask) : (mfs m).lookup ("last" : Str) = some (.bl m.last) := by
  have h0 : (("last" : Str) == "method") = false := by decide +kernel
  have h1 : (("last" : Str) == "upgrade") = false := by decide +kernel
  simp [mfs, List.lookup, h0, h1]
theorem mfs_no_asks_switch (m : Ask) : (mfs m).lookup ("asks_switch" : Str) = none := by
  have h0 : (("asks_switch" : Str) == "method") = false := by decide +kernel
  have h1 : (("asks_switch" : Str) == "upgrade") = false := by decide +kernel
  have h2 : (("asks_switch" : Str) == "last") = false := by decide +kernel
  simp [mfs, List.lookup, h0, h1, h2]

def MsgAt (A : Adr) (H : Hp) (x : V) (m : Ask) : Prop := ∃ a dx, x = .ref a ∧ H a = some (.ins A.MS dx (mfs m))
/-- what may change: lists, and the reader itself -/
def Mut (o : HO) : Prop := (∃ l, o = .lst l) ∨ ∃ C dx fs, o = .ins C dx fs ∧ fs.length = 15
/-- all but S stands -/
def Kept (S : List Addr) (H H' : Hp) : Prop := ∀ a o, H a = some o → a ∉ S → H' a = some o
structure RdC (A : Adr) (H : Hp) (R : RA) (b : Bk) (s : RS) : Prop where
  bk : BookAt A H R.bk b
  ln : H R.ln = some (.lst (s.line.map V.int))
  st : H R.st = some (.tup s.start.vs)
  fl : FL H R.fl s.fields
  ex : ∃ ms, H R.ex = some (.lst ms) ∧ Paired (MsgAt A H) ms s.asks
  ms : MsgAt A H (.ref R.ms) s.msg
/-- the reader at p, a list of events at fo -/
structure RF (A : Adr) (H : Hp) (p fo : Addr) (kd : Str) (R : RA) (b : Bk) (s : RS) (es : List Evt) : Prop where
  at_ : ∃ dx, H p = some (.ins A.RD dx (rfs kd R s))
  co : RdC A H R b s
  ev : EL H fo es
  n1 : R.ln ≠ R.fl
  n2 : R.ln ≠ R.ex
  n3 : R.fl ≠ R.ex
  n4 : fo ≠ R.ln
  n5 : fo ≠ R.fl
  n6 : fo ≠ R.ex
abbrev ownS (p fo : Addr) (R : RA) : List Addr := [p, R.ln, R.fl, R.ex, fo]
theorem Kept.rfl' {S : List Addr} {H : Hp} : Kept S H H := fun _ _ h _ => h
theorem Kept.of {S : List Addr} {H H' : Hp} (e : Ex H H') : Kept S H H' := fun a o h _ => e a o h
theorem Kept.upd {S : List Addr} {H : Hp} {a : Addr} {o : HO} (h : a ∈ S) : Kept S H (upd H a o) := fun c u hc hn => by
  have e : c ≠ a := fun z => hn (by rw [z]; exact h)
  exact (upd_ne e).trans hc
theorem Kept.tr {S : List Addr} {H H1 H2 : Hp} (a : Kept S H H1) (b : Kept S H1 H2) : Kept S H H2 := fun c o h hn => b c o (a c o h hn) hn
theorem RF.mutS {A : Adr} {H : Hp} {p fo : Addr} {kd : Str} {R : RA} {b : Bk} {s : RS} {es : List Evt} (h : RF A H p fo kd R b s es) : ∀ a ∈ ownS p fo R, ∀ o, H a = some o → Mut o := by
  obtain ⟨dx, hp⟩ := h.at_
  obtain ⟨fl, hf, _⟩ := h.co.fl
  obtain ⟨ms, hx, _⟩ := h.co.ex
  obtain ⟨ev, he, _⟩ := h.ev
  intro a ha o ho
  simp only [List.mem_cons, List.not_mem_nil, or_false] at ha
  rcases ha with rfl | rfl | rfl | rfl | rfl
  · rw [hp] at ho
    cases ho
    exact .inr ⟨_, _, _, rfl, rfl⟩
  · rw [h.co.ln] at ho
    cases ho
    exact .inl ⟨_, rfl⟩
  · rw [hf] at ho
    cases ho
    exact .inl ⟨_, rfl⟩
  · rw [hx] at ho
    cases ho
    exact .inl ⟨_, rfl⟩
  · rw [he] at ho
    cases ho
    exact .inl ⟨_, rfl⟩
/-- what is no such thing stands -/
theorem Kept.solid {S : List Addr} {H H' : Hp} (k : Kept S H H') (hm : ∀ a ∈ S, ∀ o, H a = some o → Mut o) {a : Addr} {o : HO} (h : H a = some o) (hn : ¬ Mut o) : H' a = some o := k a o h fun z => hn (hm a z o h)
theorem not_tup {xs : List V} : ¬ Mut (.tup xs) := by
  rintro (⟨l, e⟩ | ⟨C, dx, fs, e, _⟩) <;> cases e
theorem not_ins {C dx : Addr} {fs : List (Str × V)} (h : fs.length ≠ 15) : ¬ Mut (.ins C dx fs) := by
  rintro (⟨l, e⟩ | ⟨C, dx, fs, e, hl⟩)
  · cases e
  · cases e
    exact h hl
theorem Kept.tk {S : List Addr} {H H' : Hp} (k : Kept S H H') (hm : ∀ a ∈ S, ∀ o, H a = some o → Mut o) : Tk H H' := fun _ _ h => k.solid hm h not_tup
theorem MsgAt.keep {A : Adr} {S : List Addr} {H H' : Hp} {x : V} {m : Ask} (k : Kept S H H') (hm : ∀ a ∈ S, ∀ o, H a = some o → Mut o) (h : MsgAt A H x m) : MsgAt A H' x m := by
  obtain ⟨a, dx, rfl, ha⟩ := h
  exact ⟨a, dx, rfl, k.solid hm ha (not_ins (by show 3 ≠ 15; decide))⟩
theorem BookAt.keep {A : Adr} {S : List Addr} {H H' : Hp} {p : Addr} {b : Bk} (k : Kept S H H') (hm : ∀ a ∈ S, ∀ o, H a = some o → Mut o) (h : BookAt A H p b) : BookAt A H' p b := by
  obtain ⟨dx, ha⟩ := h
  exact ⟨dx, k.solid hm ha (not_ins (by show 7 ≠ 15; decide))⟩
/-- the outcome of a part of the code -/
def Po (A : Adr) (p fo : Addr) (kd : Str) (b : Bk) (R : RA) (s' : RS) (es' : List Evt) (H : Hp) (H' : Hp) : Prop :=
  ∃ R', RF A H' p fo kd R' b s' es' ∧ Kept (ownS p fo R) H H' ∧ (∀ a, (a = R'.ln ∨ a = R'.fl ∨ a = R'.ex) → (a = R.ln ∨ a = R.fl ∨ a = R.ex) ∨ H a = none)
theorem Po.here {A : Adr} {p fo : Addr} {kd : Str} {b : Bk} {R : RA} {s : RS} {es : List Evt} {H : Hp} (h : RF A H p fo kd R b s es) : Po A p fo kd b R s es H H := ⟨R, h, Kept.rfl', fun _ z => .inl z⟩
/-- one behind another -/
theorem Po.tr {A : Adr} {p fo : Addr} {kd : Str} {b : Bk} {R R1 : RA} {s1 s2 : RS} {es1 es2 : List Evt} {H H1 H2 : Hp} (h1 : RF A H1 p fo kd R1 b s1 es1) (k1 : Kept (ownS p fo R) H H1)
    (o1 : ∀ a, (a = R1.ln ∨ a = R1.fl ∨ a = R1.ex) → (a = R.ln ∨ a = R.fl ∨ a = R.ex) ∨ H a = none) (h2 : Po A p fo kd b R1 s2 es2 H1 H2) : Po A p fo kd b R s2 es2 H H2 := by
  obtain ⟨R2, r2, k2, o2⟩ := h2
  have up : ∀ a o, H a = some o → a ∉ ownS p fo R → a ∉ ownS p fo R1 := fun a o ha hn hm => by
    simp only [List.mem_cons, List.not_mem_nil, or_false] at hm hn
    rcases hm with h | h | h | h | h
    · exact hn (.inl h)
    · rcases o1 a (.inl h) with z | z
      · rcases z with z | z | z
        · exact hn (.inr (.inl z))
        · exact hn (.inr (.inr (.inl z)))
        · exact hn (.inr (.inr (.inr (.inl z))))
      · rw [ha] at z
        cases z
    · rcases o1 a (.inr (.inl h)) with z | z
      · rcases z with z | z | z
        · exact hn (.inr (.inl z))
        · exact hn (.inr (.inr (.inl z)))
        · exact hn (.inr (.inr (.inr (.inl z))))
      · rw [ha] at z
        cases z
    · rcases o1 a (.inr (.inr h)) with z | z
      · rcases z with z | z | z
        · exact hn (.inr (.inl z))
        · exact hn (.inr (.inr (.inl z)))
        · exact hn (.inr (.inr (.inr (.inl z))))
      · rw [ha] at z
        cases z
    · exact hn (.inr (.inr (.inr (.inr h))))
  refine ⟨R2, r2, fun a o ha hn => k2 a o (k1 a o ha hn) (up a o ha hn), fun a ha => ?_⟩
  rcases o2 a ha with z | z
  · exact o1 a z
  · by_cases hm : a ∈ ownS p fo R
    · simp only [List.mem_cons, List.not_mem_nil, or_false] at hm
      rcases hm with h | h | h | h | h
      · subst h
        obtain ⟨dx, hp⟩ := h1.at_
        rw [hp] at z
        cases z
      · exact .inl (.inl h)
      · exact .inl (.inr (.inl h))
      · exact .inl (.inr (.inr h))
      · subst h
        obtain ⟨xs, he, _⟩ := h1.ev
        rw [he] at z
        cases z
    · cases q : H a with
      | none => exact .inr rfl
      | some o =>
        rw [k1 a o q hm] at z
        cases z
/-! steps -/
section
variable {A : Adr} {p fo : Addr} {kd : Str} {b : Bk} {R : RA} {s : RS} {es : List Evt} {H : Hp}
theorem RF.mono (h : RF A H p fo kd R b s es) {H' : Hp} (e : Ex H H') : RF A H' p fo kd R b s es := by
  obtain ⟨⟨dx, hp⟩, ⟨c1, c2, c3, ⟨fl, hf, pf⟩, ⟨ms, hx, px⟩, ⟨ma, mdx, me, hm⟩⟩, ⟨ev, he, pe⟩, n1, n2, n3, n4, n5, n6⟩ := h
  exact ⟨⟨dx, e _ _ hp⟩, ⟨c1.mono e, e _ _ c2, e _ _ c3, ⟨fl, e _ _ hf, flds_mono (Tk.of e) pf⟩, ⟨ms, e _ _ hx, L2.Paired.mapP px fun _ _ q => by
    obtain ⟨a, d, q1, q2⟩ := q
    exact ⟨a, d, q1, e _ _ q2⟩⟩, ⟨ma, mdx, me, e _ _ hm⟩⟩, ⟨ev, e _ _ he, evs_mono (Tk.of e) pe⟩, n1, n2, n3, n4, n5, n6⟩
/-- the state behind a change of one list or of the reader: what the others are -/
theorem RF.ne (h : RF A H p fo kd R b s es) : p ≠ R.ln ∧ p ≠ R.fl ∧ p ≠ R.ex ∧ p ≠ fo ∧ p ≠ R.bk ∧ p ≠ R.st ∧ p ≠ R.ms := by
  obtain ⟨⟨dx, hp⟩, ⟨⟨bd, c1⟩, c2, c3, ⟨fl, hf, pf⟩, ⟨ms, hx, px⟩, ⟨ma, mdx, me, hm⟩⟩, ⟨ev, he, pe⟩, n1, n2, n3, n4, n5, n6⟩ := h
  cases me
  refine ⟨?_, ?_, ?_, ?_, ?_, ?_, ?_⟩ <;> intro z <;> rw [z] at hp
  · rw [hp] at c2; cases c2
  · rw [hp] at hf; cases hf
  · rw [hp] at hx; cases hx
  · rw [hp] at he; cases he
  · rw [hp] at c1
    have := (congrArg (fun o : Option HO => match o with | some (.ins _ _ fs) => fs.length | _ => 0) c1)
    exact absurd this (by show (15 : Nat) ≠ 7; decide)
  · rw [hp] at c3; cases c3
  · rw [hp] at hm
    have := (congrArg (fun o : Option HO => match o with | some (.ins _ _ fs) => fs.length | _ => 0) hm)
    exact absurd this (by show (15 : Nat) ≠ 3; decide)
theorem ownS_p : p ∈ ownS p fo R := List.mem_cons_self
theorem ownS_ln : R.ln ∈ ownS p fo R := by simp
theorem ownS_fl : R.fl ∈ ownS p fo R := by simp
theorem ownS_ex : R.ex ∈ ownS p fo R := by simp
theorem ownS_fo : fo ∈ ownS p fo R := by simp
/-- a new state of the reader's own object: the addresses R2, the scalars of s2 -/
theorem RF.put (h : RF A H p fo kd R b s es) {R2 : RA} {s2 : RS} {dx : Addr} (c : RdC A H R2 b s2) (n1 : R2.ln ≠ R2.fl) (n2 : R2.ln ≠ R2.ex) (n3 : R2.fl ≠ R2.ex) (n4 : fo ≠ R2.ln) (n5 : fo ≠ R2.fl) (n6 : fo ≠ R2.ex) :
    RF A (upd H p (.ins A.RD dx (rfs kd R2 s2))) p fo kd R2 b s2 es := by
  obtain ⟨⟨d0, hp⟩, _, ⟨ev, he, pe⟩, _⟩ := h
  have k : Kept [p] H (upd H p (.ins A.RD dx (rfs kd R2 s2))) := Kept.upd (List.mem_cons_self)
  have hm : ∀ a ∈ [p], ∀ o, H a = some o → Mut o := fun a ha o ho => by
    rw [List.mem_singleton.mp ha, hp] at ho
    cases ho
    exact .inr ⟨_, _, _, rfl, rfl⟩
  have l : ∀ {a : Addr} {l : List V}, H a = some (.lst l) → (upd H p (.ins A.RD dx (rfs kd R2 s2))) a = some (.lst l) := fun {a l} ha => k a _ ha fun z => by
    rw [List.mem_singleton.mp z, hp] at ha
    cases ha
  obtain ⟨c1, c2, c3, ⟨fl, hf, pf⟩, ⟨ms, hx, px⟩, c6⟩ := c
  exact ⟨⟨dx, upd_same⟩, ⟨c1.keep k hm, l c2, k.solid hm c3 not_tup, ⟨fl, l hf, flds_mono (k.tk hm) pf⟩, ⟨ms, l hx, L2.Paired.mapP px fun _ _ q => q.keep k hm⟩, c6.keep k hm⟩, ⟨ev, l he, evs_mono (k.tk hm) pe⟩, n1, n2, n3, n4, n5, n6⟩
/-- scalars alone -/
theorem RF.sc (h : RF A H p fo kd R b s es) {s2 : RS} {dx : Addr} (e1 : s2.line = s.line := by rfl) (e2 : s2.start = s.start := by rfl) (e3 : s2.fields = s.fields := by rfl) (e4 : s2.asks = s.asks := by rfl) (e5 : s2.msg = s.msg := by rfl) :
    RF A (upd H p (.ins A.RD dx (rfs kd R s2))) p fo kd R b s2 es := by
  obtain ⟨c1, c2, c3, c4, c5, c6⟩ := h.co
  exact h.put ⟨c1, by rw [e1]; exact c2, by rw [e2]; exact c3, by rw [e3]; exact c4, by rw [e4]; exact c5, by rw [e5]; exact c6⟩ h.n1 h.n2 h.n3 h.n4 h.n5 h.n6
/-- one of the lists changes -/
theorem RF.lst (h : RF A H p fo kd R b s es) {c : Addr} {o : HO} (hc : c = R.ln ∨ c = R.fl ∨ c = R.ex ∨ c = fo) {s2 : RS} {es2 : List Evt} (er : rfs kd R s2 = rfs kd R s) (e2 : s2.start = s.start) (e5 : s2.msg = s.msg)
    (l1 : (upd H c o) R.ln = some (.lst (s2.line.map V.int))) (l2 : Tk H (upd H c o) → FL (upd H c o) R.fl s2.fields) (l3 : (∀ x m, MsgAt A H x m → MsgAt A (upd H c o) x m) → ∃ ms, (upd H c o) R.ex = some (.lst ms) ∧ Paired (MsgAt A (upd H c o)) ms s2.asks)
    (l4 : Tk H (upd H c o) → EL (upd H c o) fo es2) : RF A (upd H c o) p fo kd R b s2 es2 := by
  obtain ⟨d1, d2, d3, d4, d5, d6, d7⟩ := h.ne
  have hm := h.mutS
  have k : Kept (ownS p fo R) H (upd H c o) := Kept.upd (by rcases hc with rfl | rfl | rfl | rfl <;> simp)
  obtain ⟨dx, hp⟩ := h.at_
  have pc : p ≠ c := by rcases hc with rfl | rfl | rfl | rfl <;> assumption
  exact ⟨⟨dx, by rw [upd_ne pc, er]; exact hp⟩, ⟨h.co.bk.keep k hm, l1, by rw [e2]; exact k.solid hm h.co.st not_tup, l2 (k.tk hm), l3 (fun _ _ q => q.keep k hm), by rw [e5]; exact h.co.ms.keep k hm⟩, l4 (k.tk hm), h.n1, h.n2, h.n3, h.n4, h.n5, h.n6⟩
/-- an event more -/
theorem RF.push (h : RF A H p fo kd R b s es) {xs : List V} {x : V} {e : Evt} (hx : H fo = some (.lst xs)) (he : EvAt H x e) (hp : Paired (EvAt H) xs es) : RF A (upd H fo (.lst (xs ++ [x]))) p fo kd R b s (es ++ [e]) := by
  obtain ⟨fl, hf, pf⟩ := h.co.fl
  obtain ⟨ms, hx2, px⟩ := h.co.ex
  exact h.lst (.inr (.inr (.inr rfl))) rfl rfl rfl (by rw [upd_ne (Ne.symm h.n4)]; exact h.co.ln) (fun t => ⟨fl, by rw [upd_ne (Ne.symm h.n5)]; exact hf, flds_mono t pf⟩) (fun t => ⟨ms, by rw [upd_ne (Ne.symm h.n6)]; exact hx2, L2.Paired.mapP px fun _ _ q => t _ _ q⟩)
    (fun t => ⟨_, upd_same, Paired.snoc (evs_mono t hp) (he.mono t)⟩)
/-- an octet more in the line -/
theorem RF.octet (h : RF A H p fo kd R b s es) (o : Int) : RF A (upd H R.ln (.lst (s.line.map V.int ++ [.int o]))) p fo kd R b { s with line := s.line ++ [o] } es := by
  obtain ⟨fl, hf, pf⟩ := h.co.fl
  obtain ⟨ms, hx2, px⟩ := h.co.ex
  obtain ⟨ev, he, pe⟩ := h.ev
  refine h.lst (.inl rfl) rfl rfl rfl ?_ (fun t => ⟨fl, by rw [upd_ne (Ne.symm h.n1)]; exact hf, flds_mono t pf⟩) (fun t => ⟨ms, by rw [upd_ne (Ne.symm h.n2)]; exact hx2, L2.Paired.mapP px fun _ _ q => t _ _ q⟩)
    (fun t => ⟨ev, by rw [upd_ne h.n4]; exact he, evs_mono t pe⟩)
  rw [upd_same, List.map_append]
  rfl
/-- a field more -/
theorem RF.field (h : RF A H p fo kd R b s es) {xs : List V} {x : V} {f : Fld} (hx : H R.fl = some (.lst xs)) (hp : Paired (FldAt H) xs s.fields) (he : FldAt H x f) : RF A (upd H R.fl (.lst (xs ++ [x]))) p fo kd R b { s with fields := s.fields ++ [f] } es := by
  obtain ⟨ms, hx2, px⟩ := h.co.ex
  obtain ⟨ev, hev, pe⟩ := h.ev
  exact h.lst (.inr (.inl rfl)) rfl rfl rfl (by rw [upd_ne h.n1]; exact h.co.ln) (fun t => ⟨_, upd_same, Paired.snoc (flds_mono t hp) (he.mono t)⟩) (fun t => ⟨ms, by rw [upd_ne (Ne.symm h.n3)]; exact hx2, L2.Paired.mapP px fun _ _ q => t _ _ q⟩)
    (fun t => ⟨ev, by rw [upd_ne h.n5]; exact hev, evs_mono t pe⟩)
/-- the list of the requests changes -/
theorem RF.asks' (h : RF A H p fo kd R b s es) {ms2 : List V} {as2 : List Ask} (hp : Paired (MsgAt A H) ms2 as2) : RF A (upd H R.ex (.lst ms2)) p fo kd R b { s with asks := as2 } es := by
  obtain ⟨fl, hf, pf⟩ := h.co.fl
  obtain ⟨ev, he, pe⟩ := h.ev
  exact h.lst (.inr (.inr (.inl rfl))) rfl rfl rfl (by rw [upd_ne h.n2]; exact h.co.ln) (fun t => ⟨fl, by rw [upd_ne h.n3]; exact hf, flds_mono t pf⟩) (fun t => ⟨_, upd_same, L2.Paired.mapP hp fun _ _ q => t _ _ q⟩)
    (fun t => ⟨ev, by rw [upd_ne h.n6]; exact he, evs_mono t pe⟩)
end
end K32

namespace K32
open PySem PySem.Spec PyProof.Rows L2
/-! ### where the code stands: what has become of the reader since H -/
structure Cur (A : Adr) (p fo : Addr) (kd : Str) (b : Bk) (R : RA) (H Hn : Hp) (Rn : RA) (sn : RS) (en : List Evt) : Prop where
  rf : RF A Hn p fo kd Rn b sn en
  kp : Kept (ownS p fo R) H Hn
  ow : ∀ a, (a = Rn.ln ∨ a = Rn.fl ∨ a = Rn.ex) → (a = R.ln ∨ a = R.fl ∨ a = R.ex) ∨ H a = none
section
variable {A : Adr} {p fo : Addr} {kd : Str} {b : Bk} {R Rn : RA} {s sn : RS} {es en : List Evt} {H Hn H' : Hp}
theorem Cur.start (h : RF A H p fo kd R b s es) : Cur A p fo kd b R H H R s es := ⟨h, Kept.rfl', fun _ z => .inl z⟩
theorem Cur.po (c : Cur A p fo kd b R H Hn Rn sn en) : Po A p fo kd b R sn en H Hn := ⟨Rn, c.rf, c.kp, c.ow⟩
theorem Po.cur (h : Po A p fo kd b R sn en H Hn) : ∃ Rn, Cur A p fo kd b R H Hn Rn sn en := by
  obtain ⟨R', a, b, c⟩ := h
  exact ⟨R', a, b, c⟩
theorem Cur.tr (c : Cur A p fo kd b R H Hn Rn sn en) {s2 : RS} {es2 : List Evt} (h : Po A p fo kd b Rn s2 es2 Hn H') : Po A p fo kd b R s2 es2 H H' := Po.tr c.rf c.kp c.ow h
theorem Cur.ex (c : Cur A p fo kd b R H Hn Rn sn en) (e : Ex Hn H') : Cur A p fo kd b R H H' Rn sn en := ⟨c.rf.mono e, c.kp.tr (Kept.of e), c.ow⟩
/-- the reader's own things that stay in use -/
theorem Cur.inS (c : Cur A p fo kd b R H Hn Rn sn en) {a : Addr} {o : HO} (h : a ∈ ownS p fo Rn) (u : HO) (hH : ∀ o, H a = some o → a ∉ ownS p fo R → False) : Kept (ownS p fo R) H (upd Hn a u) := fun x o hx hn => by
  have e : x ≠ a := fun z => hH o (by rw [← z]; exact hx) (by rw [← z]; exact hn)
  exact (upd_ne e).trans (c.kp x o hx hn)
theorem Cur.own (c : Cur A p fo kd b R H Hn Rn sn en) {a : Addr} (h : a ∈ ownS p fo Rn) : ∀ o, H a = some o → a ∉ ownS p fo R → False := fun o ho hn => by
  simp only [List.mem_cons, List.not_mem_nil, or_false] at h hn
  rcases h with h | h | h | h | h
  · exact hn (.inl h)
  · rcases c.ow a (.inl h) with z | z
    · rcases z with z | z | z
      · exact hn (.inr (.inl z))
      · exact hn (.inr (.inr (.inl z)))
      · exact hn (.inr (.inr (.inr (.inl z))))
    · rw [ho] at z
      cases z
  · rcases c.ow a (.inr (.inl h)) with z | z
    · rcases z with z | z | z
      · exact hn (.inr (.inl z))
      · exact hn (.inr (.inr (.inl z)))
      · exact hn (.inr (.inr (.inr (.inl z))))
    · rw [ho] at z
      cases z
  · rcases c.ow a (.inr (.inr h)) with z | z
    · rcases z with z | z | z
      · exact hn (.inr (.inl z))
      · exact hn (.inr (.inr (.inl z)))
      · exact hn (.inr (.inr (.inr (.inl z))))
    · rw [ho] at z
      cases z
  · exact hn (.inr (.inr (.inr (.inr h))))
theorem Cur.keep (c : Cur A p fo kd b R H Hn Rn sn en) {a : Addr} (h : a ∈ ownS p fo Rn) (u : HO) : Kept (ownS p fo R) H (upd Hn a u) := fun x o hx hn => by
  have e : x ≠ a := fun z => c.own h o (by rw [← z]; exact hx) (by rw [← z]; exact hn)
  exact (upd_ne e).trans (c.kp x o hx hn)
/-- scalars -/
theorem Cur.sc (c : Cur A p fo kd b R H Hn Rn sn en) {s2 : RS} {dx : Addr} (e1 : s2.line = sn.line := by rfl) (e2 : s2.start = sn.start := by rfl) (e3 : s2.fields = sn.fields := by rfl) (e4 : s2.asks = sn.asks := by rfl) (e5 : s2.msg = sn.msg := by rfl) :
    Cur A p fo kd b R H (upd Hn p (.ins A.RD dx (rfs kd Rn s2))) Rn s2 en := ⟨c.rf.sc e1 e2 e3 e4 e5, c.keep ownS_p _, c.ow⟩
theorem Cur.push (c : Cur A p fo kd b R H Hn Rn sn en) {xs : List V} {x : V} {e : Evt} (hx : Hn fo = some (.lst xs)) (he : EvAt Hn x e) (hp : Paired (EvAt Hn) xs en) : Cur A p fo kd b R H (upd Hn fo (.lst (xs ++ [x]))) Rn sn (en ++ [e]) :=
  ⟨c.rf.push hx he hp, c.keep ownS_fo _, c.ow⟩
theorem Cur.octet (c : Cur A p fo kd b R H Hn Rn sn en) (o : Int) : Cur A p fo kd b R H (upd Hn Rn.ln (.lst (sn.line.map V.int ++ [.int o]))) Rn { sn with line := sn.line ++ [o] } en := ⟨c.rf.octet o, c.keep ownS_ln _, c.ow⟩
theorem Cur.field (c : Cur A p fo kd b R H Hn Rn sn en) {xs : List V} {x : V} {f : Fld} (hx : Hn Rn.fl = some (.lst xs)) (hp : Paired (FldAt Hn) xs sn.fields) (he : FldAt Hn x f) : Cur A p fo kd b R H (upd Hn Rn.fl (.lst (xs ++ [x]))) Rn { sn with fields := sn.fields ++ [f] } en :=
  ⟨c.rf.field hx hp he, c.keep ownS_fl _, c.ow⟩
theorem Cur.asks' (c : Cur A p fo kd b R H Hn Rn sn en) {ms2 : List V} {as2 : List Ask} (hp : Paired (MsgAt A Hn) ms2 as2) : Cur A p fo kd b R H (upd Hn Rn.ex (.lst ms2)) Rn { sn with asks := as2 } en := ⟨c.rf.asks' hp, c.keep ownS_ex _, c.ow⟩
/-- what is new now was not there -/
theorem Cur.fresh (c : Cur A p fo kd b R H Hn Rn sn en) {l : Addr} (h : Hn l = none) : (l = R.ln ∨ l = R.fl ∨ l = R.ex) ∨ H l = none := by
  by_cases hm : l ∈ ownS p fo R
  · simp only [List.mem_cons, List.not_mem_nil, or_false] at hm
    rcases hm with z | z | z | z | z
    · subst z
      obtain ⟨dx, hp⟩ := c.rf.at_
      rw [hp] at h
      cases h
    · exact .inl (.inl z)
    · exact .inl (.inr (.inl z))
    · exact .inl (.inr (.inr z))
    · subst z
      obtain ⟨xs, he, _⟩ := c.rf.ev
      rw [he] at h
      cases h
  · cases q : H l with
    | none => exact .inr rfl
    | some o =>
      rw [c.kp l o q hm] at h
      cases h
theorem ne_free {H : Hp} {a l : Addr} {o : HO} (h : H a = some o) (hl : H l = none) : a ≠ l := ne_of_none h hl
/-- self.line = [] -/
theorem Cur.line (c : Cur A p fo kd b R H Hn Rn sn en) {l dx : Addr} (hl : Hn l = none) : Cur A p fo kd b R H (upd (upd Hn l (.lst [])) p (.ins A.RD dx (rfs kd { Rn with ln := l } sn))) { Rn with ln := l } { sn with line := [] } en := by
  have c1 := c.ex (Ex.new (o := .lst []) hl)
  obtain ⟨fl, hf, _⟩ := c.rf.co.fl
  obtain ⟨ms, hx, _⟩ := c.rf.co.ex
  obtain ⟨ev, he, _⟩ := c.rf.ev
  obtain ⟨d1, d2, d3, d4, d5, d6⟩ := c1.rf.co
  refine ⟨c1.rf.put (R2 := { Rn with ln := l }) (s2 := { sn with line := [] }) ⟨d1, upd_same, d3, d4, d5, d6⟩ (ne_free hf hl).symm (ne_free hx hl).symm c.rf.n3 (ne_free he hl) c.rf.n5 c.rf.n6, c1.keep ownS_p _, fun a ha => ?_⟩
  rcases ha with rfl | ha | ha
  · exact c.fresh hl
  · exact c.ow a (.inr (.inl ha))
  · exact c.ow a (.inr (.inr ha))
/-- self.fields = [] -/
theorem Cur.fields (c : Cur A p fo kd b R H Hn Rn sn en) {l dx : Addr} (hl : Hn l = none) : Cur A p fo kd b R H (upd (upd Hn l (.lst [])) p (.ins A.RD dx (rfs kd { Rn with fl := l } sn))) { Rn with fl := l } { sn with fields := [] } en := by
  have c1 := c.ex (Ex.new (o := .lst []) hl)
  obtain ⟨ms, hx, _⟩ := c.rf.co.ex
  obtain ⟨ev, he, _⟩ := c.rf.ev
  obtain ⟨d1, d2, d3, d4, d5, d6⟩ := c1.rf.co
  refine ⟨c1.rf.put (R2 := { Rn with fl := l }) (s2 := { sn with fields := [] }) ⟨d1, d2, d3, ⟨[], upd_same, .nil⟩, d5, d6⟩ (ne_free c.rf.co.ln hl) c.rf.n2 (ne_free hx hl).symm c.rf.n4 (ne_free he hl) c.rf.n6, c1.keep ownS_p _, fun a ha => ?_⟩
  rcases ha with ha | rfl | ha
  · exact c.ow a (.inl ha)
  · exact c.fresh hl
  · exact c.ow a (.inr (.inr ha))
/-- self.start = t -/
theorem Cur.st (c : Cur A p fo kd b R H Hn Rn sn en) {t dx : Addr} {st : Stt} (ht : Hn t = some (.tup st.vs)) : Cur A p fo kd b R H (upd Hn p (.ins A.RD dx (rfs kd { Rn with st := t } sn))) { Rn with st := t } { sn with start := st } en := by
  obtain ⟨d1, d2, d3, d4, d5, d6⟩ := c.rf.co
  exact ⟨c.rf.put (R2 := { Rn with st := t }) (s2 := { sn with start := st }) ⟨d1, d2, ht, d4, d5, d6⟩ c.rf.n1 c.rf.n2 c.rf.n3 c.rf.n4 c.rf.n5 c.rf.n6, c.keep ownS_p _, c.ow⟩
/-- self.message = m -/
theorem Cur.msg (c : Cur A p fo kd b R H Hn Rn sn en) {t dx : Addr} {m : Ask} (ht : MsgAt A Hn (.ref t) m) : Cur A p fo kd b R H (upd Hn p (.ins A.RD dx (rfs kd { Rn with ms := t } sn))) { Rn with ms := t } { sn with msg := m } en := by
  obtain ⟨d1, d2, d3, d4, d5, d6⟩ := c.rf.co
  exact ⟨c.rf.put (R2 := { Rn with ms := t }) (s2 := { sn with msg := m }) ⟨d1, d2, d3, d4, d5, ht⟩ c.rf.n1 c.rf.n2 c.rf.n3 c.rf.n4 c.rf.n5 c.rf.n6, c.keep ownS_p _, c.ow⟩
end
end K32

namespace K32
open PySem PySem.Spec PyProof.Rows L2
section
variable {P : Program} {w : World} {K : PySem.W.Frag} {mg : Str → Option Value} {base : Heap} {A : Adr}
/-! ### the same defs where an exception is at hand -/
theorem hasMH0 {C : Addr} {m qual : Str} {st : Stmt} {N ps : List Str} {k : Nat} {sp : Sp} (D : MetAt K C m qual st []) (S : FnScope N ps (defScope st)) (hb : BindOk m qual st ps) (len : ∀ vs H Q E, sp vs H Q E → vs.length = ps.length)
    (hbody : ∀ (f : Addr) (cdv : Value) (A : Around) (outer : List Env) (s : Shared) (H : Hp) (vs : List V) (Q : VK) (E : XK) (p : Addr × Obj), L2H.RoomH k (A.deeper (envOfC qual (defScope st) s.heap.objs.size f cdv)) → sp vs H Q E →
      ∃ t, PSs (L2H.cxH CX0 P w K mg base N qual (defScope st) f cdv A outer s H E p) (defBody st) t ∧ t { nx := fun _ H' => Q .non H', rt := Q } (L2.start N vs) H) : HasMH CX0 P w K mg base C m (k + 1) ps sp := by
  obtain ⟨f, fd, hm, F⟩ := D.ex
  have B := F.bindsN hb
  obtain ⟨oc, od, dV, kV, doc, pm, an, cdv, ct, osl, rfl, lk, hcd, _, _⟩ := F.ex
  exact ⟨f, _, hm, B, L2H.fn_ofH lk hcd S len fun A outer s H vs Q E p _ hr h => hbody f cdv A outer s H vs Q E p hr h⟩
theorem hasH0 {x : Str} {st : Stmt} {N ps : List Str} {k : Nat} {sp : Sp} (D : DefAt K mg x st []) (S : FnScope N ps (defScope st)) (hb : BindOk x x st ps) (len : ∀ vs H Q E, sp vs H Q E → vs.length = ps.length)
    (hbody : ∀ (f : Addr) (cdv : Value) (A : Around) (outer : List Env) (s : Shared) (H : Hp) (vs : List V) (Q : VK) (E : XK) (p : Addr × Obj), L2H.RoomH k (A.deeper (envOfC x (defScope st) s.heap.objs.size f cdv)) → sp vs H Q E →
      ∃ t, PSs (L2H.cxH CX0 P w K mg base N x (defScope st) f cdv A outer s H E p) (defBody st) t ∧ t { nx := fun _ H' => Q .non H', rt := Q } (L2.start N vs) H) : HasH CX0 P w K mg base x (k + 1) ps sp := by
  obtain ⟨f, fd, hm, F⟩ := D.ex
  have B := F.bindsN hb
  have kp := F.kp
  obtain ⟨oc, od, dV, kV, doc, pm, an, cdv, ct, osl, rfl, lk, hcd, _, _⟩ := F.ex
  exact ⟨f, _, hm, kp, B, L2H.fn_ofH lk hcd S len fun A outer s H vs Q E p _ hr h => hbody f cdv A outer s H vs Q E p hr h⟩
/-! ### Reader.fail -/
/-- the code ends by the outcome o -/
def MO (A : Adr) (p fo : Addr) (kd : Str) (b : Bk) (R : RA) (es : List Evt) (o : Out) (H : Hp) (Q : VK) : Prop := ∀ H', Po A p fo kd b R o.1 (es ++ o.2) H H' → Q .non H'
theorem Cur.out {p fo : Addr} {kd : Str} {b : Bk} {R Rn : RA} {s : RS} {es : List Evt} {o : Out} {H Hn : Hp} {Q : VK} (c : Cur A p fo kd b R H Hn Rn s es) (hk : MO A p fo kd b R es o H Q) (e : o = (s, [])) : Q .non Hn := by
  refine hk _ ?_
  rw [e]
  show Po A p fo kd b R s (es ++ []) H Hn
  rw [List.append_nil]
  exact c.po
theorem Cur.out2 {p fo : Addr} {kd : Str} {b : Bk} {R Rn : RA} {s : RS} {es ev : List Evt} {o : Out} {H Hn : Hp} {Q : VK} (c : Cur A p fo kd b R H Hn Rn s (es ++ ev)) (hk : MO A p fo kd b R es o H Q) (e : o = (s, ev)) : Q .non Hn := by
  refine hk _ ?_
  rw [e]
  exact c.po
def sp_Reader_fail : Sp := fun vs H Q _ => ∃ (p fo : Addr) (kd : Str) (R : RA) (b : Bk) (s : RS) (es : List Evt) (k : Str), vs = [.ref p, .str k, .ref fo] ∧ RF A H p fo kd R b s es ∧ es.length ≤ 10 ∧ MO A p fo kd b R es (failM k s) H Q
abbrev N_Reader_fail : List Str := ["self", "kind", "found"]
theorem sc_Reader_fail : FnScope N_Reader_fail ["self", "kind", "found"] (defScope s_Reader_fail) := ⟨rfl, rfl, rfl, by decide +kernel, rfl, by decide +kernel, by decide +kernel⟩
theorem h_Reader_fail (T : Txt K w mg A) : HasM CX0 P w K mg base A.RD "fail" 1 ["self", "kind", "found"] (sp_Reader_fail (A := A)) := by
  refine hasM0 (k := 0) T.d_Reader_fail sc_Reader_fail (fun _ _ _ _ _ _ us hl => match us, hl with | [_, _, _], _ => rfl) (fun vs H Q E h => ?_) (fun f cdv A0 outer s H vs Q E hr h => ?_)
  · obtain ⟨p, fo, kd, R, b, s, es, k, rfl, _⟩ := h
    rfl
  · have _z := 0
    obtain ⟨p, fo, kd, R, b, s, es, k, rfl, hR, hl, hk⟩ := h
    obtain ⟨dx, hp⟩ := hR.at_
    obtain ⟨xs, he, pe⟩ := hR.ev
    have lx := pe.length
    refine ⟨_, ((pss_cons (ps_expr (pe_bm PySem.F.plainAttrs_list PySem.F.slot_list_append PySem.F.type_list_append mt_append (pv 2) (pa_cons (pe_tup (pa_cons (C8.pe_gc rfl T.c_ERROR) (pa_cons (pv 1) (pa_cons (pe_fld (pv 0) rfl) pa_nil)))) pa_nil)))
      (pss_one (ps_fld (pv 0) (C8.pe_gc rfl T.c_WRONG) rfl)))), ?_⟩
    refine ⟨_, rfl, Or.inl ⟨rfl, _, SqL.of he⟩, _, rfl, _, rfl, p, A.RD, dx, _, _, rfl, hp, T.cl_Reader, T.n_Reader_count, rfs_count _ _ _, by show 3 ≤ sizeLine; decide, fun t ht => ?_⟩
    have e1 : Ex H (upd H t (.tup [.str "error", .str k, .int s.count])) := Ex.new ht
    have c1 := (Cur.start hR).ex e1
    have he1 := e1 _ _ he
    refine ⟨fo, xs, .ref t, rfl, rfl, he1, Nat.lt_of_le_of_lt (by omega : xs.length ≤ 10) (by decide), ?_⟩
    have c2 := c1.push he1 (x := .ref t) (e := .err k s.count) ⟨t, _, rfl, upd_same, rfl⟩ (evs_mono (Tk.of e1) pe)
    obtain ⟨dx2, hp2⟩ := c2.rf.at_
    refine ⟨_, rfl, p, A.RD, dx2, _, rfl, hp2, T.cl_Reader, T.n_Reader_now, (by show 15 < 1000; decide), ?_⟩
    rw [put_now]
    exact hk _ c2.sc.po
theorem hh_Reader_fail (T : Txt K w mg A) : HasMH CX0 P w K mg base A.RD "fail" 1 ["self", "kind", "found"] (sp_Reader_fail (A := A)) := by
  refine hasMH0 (k := 0) T.d_Reader_fail sc_Reader_fail (fun _ _ _ _ _ _ us hl => match us, hl with | [_, _, _], _ => rfl) (fun vs H Q E h => ?_) (fun f cdv A0 outer s H vs Q E pp hr h => ?_)
  · obtain ⟨p, fo, kd, R, b, s, es, k, rfl, _⟩ := h
    rfl
  · have _z := 0
    obtain ⟨p, fo, kd, R, b, s, es, k, rfl, hR, hl, hk⟩ := h
    obtain ⟨dx, hp⟩ := hR.at_
    obtain ⟨xs, he, pe⟩ := hR.ev
    have lx := pe.length
    refine ⟨_, ((pss_cons (ps_expr (pe_bm PySem.F.plainAttrs_list PySem.F.slot_list_append PySem.F.type_list_append mt_append (pv 2) (pa_cons (pe_tup (pa_cons (C8.pe_gc rfl T.c_ERROR) (pa_cons (pv 1) (pa_cons (pe_fld (pv 0) rfl) pa_nil)))) pa_nil)))
      (pss_one (ps_fld (pv 0) (C8.pe_gc rfl T.c_WRONG) rfl)))), ?_⟩
    refine ⟨_, rfl, Or.inl ⟨rfl, _, SqL.of he⟩, _, rfl, _, rfl, p, A.RD, dx, _, _, rfl, hp, T.cl_Reader, T.n_Reader_count, rfs_count _ _ _, by show 3 ≤ sizeLine; decide, fun t ht => ?_⟩
    have e1 : Ex H (upd H t (.tup [.str "error", .str k, .int s.count])) := Ex.new ht
    have c1 := (Cur.start hR).ex e1
    have he1 := e1 _ _ he
    refine ⟨fo, xs, .ref t, rfl, rfl, he1, Nat.lt_of_le_of_lt (by omega : xs.length ≤ 10) (by decide), ?_⟩
    have c2 := c1.push he1 (x := .ref t) (e := .err k s.count) ⟨t, _, rfl, upd_same, rfl⟩ (evs_mono (Tk.of e1) pe)
    obtain ⟨dx2, hp2⟩ := c2.rf.at_
    refine ⟨_, rfl, p, A.RD, dx2, _, rfl, hp2, T.cl_Reader, T.n_Reader_now, (by show 15 < 1000; decide), ?_⟩
    rw [put_now]
    exact hk _ c2.sc.po
/-! ### Reader.look_open -/
def sp_Reader_look_open : Sp := fun vs H Q _ => ∃ (p : Addr) (kd : Str) (R : RA) (s : RS) (dx : Addr), vs = [.ref p] ∧ H p = some (.ins A.RD dx (rfs kd R s)) ∧ Q .non H
abbrev N_Reader_look_open : List Str := ["self"]
theorem sc_Reader_look_open : FnScope N_Reader_look_open ["self"] (defScope s_Reader_look_open) := ⟨rfl, rfl, rfl, by decide +kernel, rfl, by decide +kernel, by decide +kernel⟩
theorem h_Reader_look_open (T : Txt K w mg A) : HasM CX0 P w K mg base A.RD "look_open" 1 ["self"] (sp_Reader_look_open (A := A)) := by
  refine hasM0 (k := 0) T.d_Reader_look_open sc_Reader_look_open (fun _ _ _ _ _ _ us hl => match us, hl with | [_], _ => rfl) (fun vs H Q E h => ?_) (fun f cdv A0 outer s H vs Q E hr h => ?_)
  · obtain ⟨p, kd, R, s, dx, rfl, _⟩ := h
    rfl
  · obtain ⟨p, kd, R, s, dx, rfl, hp, k⟩ := h
    refine ⟨_, ((pss_one (ps_if (pt_val (pe_fld (pv 0) rfl)) (pss_one ps_never) pss_nil))), ?_⟩
    exact ⟨_, rfl, p, A.RD, dx, _, _, rfl, hp, T.cl_Reader, T.n_Reader_is_closed, rfs_is_closed _ _ _, _, rfl, iteF k⟩
/-! ### Message -/
def sp_Message_asks_switch : Sp := fun vs H Q _ => ∃ (x : V) (m : Ask), vs = [x] ∧ MsgAt A H x m ∧ Q (.bl m.sw) H
abbrev N_Message_asks_switch : List Str := ["self"]
theorem sc_Message_asks_switch : FnScope N_Message_asks_switch ["self"] (defScope s_Message_asks_switch) := ⟨rfl, rfl, rfl, by decide +kernel, rfl, by decide +kernel, by decide +kernel⟩
theorem h_Message_asks_switch (T : Txt K w mg A) : HasM CX0 P w K mg base A.MS "asks_switch" 1 ["self"] (sp_Message_asks_switch (A := A)) := by
  refine hasM0 (k := 0) T.d_Message_asks_switch sc_Message_asks_switch (fun _ _ _ _ _ _ us hl => match us, hl with | [_], _ => rfl) (fun vs H Q E h => ?_) (fun f cdv A0 outer s H vs Q E hr h => ?_)
  · obtain ⟨x, m, rfl, _⟩ := h
    rfl
  · obtain ⟨x, m, rfl, ⟨a, dx, rfl, ha⟩, k⟩ := h
    refine ⟨_, ((pss_one (ps_ret (pe_or (pe_fld (pv 0) rfl) (pe_one (pe_cmpR op_eq (pe_fld (pv 0) rfl) pe_str (nomark _))))))), ?_⟩
    refine ⟨_, rfl, a, A.MS, dx, _, _, rfl, ha, T.cl_Message, T.n_Message_upgrade, mfs_upgrade m, _, rfl, ?_⟩
    unfold Ask.sw at k
    refine ite2 (fun h1 => ?_) (fun h1 => ?_)
    · rw [h1] at k
      exact k
    · rw [Bool.not_eq_true] at h1
      rw [h1, Bool.false_or] at k
      refine ⟨_, rfl, a, A.MS, dx, _, _, rfl, ha, T.cl_Message, T.n_Message_method, mfs_method m, rfl, ?_⟩
      rw [dec_vs]
      exact k
/-! ### Reader.begin_chunk, read_chunk_end -/
def sp_Reader_begin_chunk : Sp := fun vs H Q _ => ∃ (p fo : Addr) (kd : Str) (R : RA) (b : Bk) (s : RS) (es : List Evt) (n : Int), vs = [.ref p, .int n] ∧ RF A H p fo kd R b s es ∧ MO A p fo kd b R es ({ s with left := n, part := if 0 < n then "chunk" else "trailers", fields := [] }, []) H Q
abbrev N_Reader_begin_chunk : List Str := ["self", "size"]
theorem sc_Reader_begin_chunk : FnScope N_Reader_begin_chunk ["self", "size"] (defScope s_Reader_begin_chunk) := ⟨rfl, rfl, rfl, by decide +kernel, rfl, by decide +kernel, by decide +kernel⟩
theorem h_Reader_begin_chunk (T : Txt K w mg A) : HasM CX0 P w K mg base A.RD "begin_chunk" 1 ["self", "size"] (sp_Reader_begin_chunk (A := A)) := by
  refine hasM0 (k := 0) T.d_Reader_begin_chunk sc_Reader_begin_chunk (fun _ _ _ _ _ _ us hl => match us, hl with | [_, _], _ => rfl) (fun vs H Q E h => ?_) (fun f cdv A0 outer s H vs Q E hr h => ?_)
  · obtain ⟨p, fo, kd, R, b, s, es, n, rfl, _⟩ := h
    rfl
  · obtain ⟨p, fo, kd, R, b, s, es, n, rfl, hR, hk⟩ := h
    have c0 := Cur.start hR
    obtain ⟨dx, hp⟩ := c0.rf.at_
    refine ⟨_, ((pss_cons (ps_fld (pv 0) (pv 1) rfl)
      (pss_cons (ps_fld (pv 0) (pe_ifExp (pt_cmpR op_gt (pv 1) pe_int (nomark _)) (C8.pe_gc rfl T.c_CHUNK) (C8.pe_gc rfl T.c_TRAILERS)) rfl)
      (pss_one (ps_fld (pv 0) (pe_lst pa_nil) rfl))))), ?_⟩
    refine ⟨_, rfl, _, rfl, p, A.RD, dx, _, rfl, hp, T.cl_Reader, T.n_Reader_left, (by show 15 < 1000; decide), ?_⟩
    rw [put_left]
    have c1 := c0.sc (s2 := { s with left := n }) (dx := dx)
    obtain ⟨dx1, hp1⟩ := c1.rf.at_
    refine ⟨_, rfl, _, _, rfl, rfl, _, rfl, ?_⟩
    refine ite2 (fun h1 => ?_) (fun h1 => ?_)
    · have h1' := of_decide_eq_true h1
      refine ⟨_, rfl, p, A.RD, dx1, _, rfl, hp1, T.cl_Reader, T.n_Reader_part, (by show 15 < 1000; decide), ?_⟩
      rw [put_part]
      have c2 := c1.sc (s2 := { s with left := n, part := "chunk" }) (dx := dx1)
      obtain ⟨dx2, hp2⟩ := c2.rf.at_
      refine ⟨Nat.zero_le _, fun l hl => ⟨_, rfl, p, A.RD, dx2, _, rfl, ((upd_ne (ne_of_none hp2 hl)).trans hp2), T.cl_Reader, T.n_Reader_fields, (by show 15 < 1000; decide), ?_⟩⟩
      rw [put_fields]
      exact (c2.fields (dx := dx2) hl).out hk (by rw [if_pos h1'])
    · have h1' : ¬ 0 < n := fun z => h1 (decide_eq_true z)
      refine ⟨_, rfl, p, A.RD, dx1, _, rfl, hp1, T.cl_Reader, T.n_Reader_part, (by show 15 < 1000; decide), ?_⟩
      rw [put_part]
      have c2 := c1.sc (s2 := { s with left := n, part := "trailers" }) (dx := dx1)
      obtain ⟨dx2, hp2⟩ := c2.rf.at_
      refine ⟨Nat.zero_le _, fun l hl => ⟨_, rfl, p, A.RD, dx2, _, rfl, ((upd_ne (ne_of_none hp2 hl)).trans hp2), T.cl_Reader, T.n_Reader_fields, (by show 15 < 1000; decide), ?_⟩⟩
      rw [put_fields]
      exact (c2.fields (dx := dx2) hl).out hk (by rw [if_neg h1'])
def sp_Reader_read_chunk_end : Sp := fun vs H Q _ => ∃ (p fo : Addr) (kd : Str) (R : RA) (b : Bk) (s : RS) (es : List Evt) (o : Int), vs = [.ref p, .int o, .ref fo] ∧ RF A H p fo kd R b s es ∧ es.length ≤ 10 ∧ MO A p fo kd b R es (readChunkEnd s o) H Q
abbrev N_Reader_read_chunk_end : List Str := ["self", "octet", "found"]
theorem sc_Reader_read_chunk_end : FnScope N_Reader_read_chunk_end ["self", "octet", "found"] (defScope s_Reader_read_chunk_end) := ⟨rfl, rfl, rfl, by decide +kernel, rfl, by decide +kernel, by decide +kernel⟩
theorem h_Reader_read_chunk_end (T : Txt K w mg A) : HasM CX0 P w K mg base A.RD "read_chunk_end" 2 ["self", "octet", "found"] (sp_Reader_read_chunk_end (A := A)) := by
  refine hasM0 (k := 1) T.d_Reader_read_chunk_end sc_Reader_read_chunk_end (fun _ _ _ _ _ _ us hl => match us, hl with | [_, _, _], _ => rfl) (fun vs H Q E h => ?_) (fun f cdv A0 outer s H vs Q E hr h => ?_)
  · obtain ⟨p, fo, kd, R, b, s, es, o, rfl, _⟩ := h
    rfl
  · obtain ⟨p, fo, kd, R, b, s, es, o, rfl, hR, hl, hk⟩ := h
    have c0 := Cur.start hR
    obtain ⟨dx, hp⟩ := c0.rf.at_
    refine ⟨_, ((pss_cons (ps_if (pt_cmpR op_ne (pv 1) (pe_ifExp (pt_val (pe_fld (pv 0) rfl)) (C8.pe_gc rfl T.c_FEED_reader) (C8.pe_gc rfl T.c_RETURN_reader)) (nomark _)) (pss_cons (ps_expr (pe_mt (pv 0) T.cl_Reader (h_Reader_fail T) (hr.mono (by decide)) paN (pa_cons pe_str (pa_cons (pv 2) pa_nil))))
      (pss_one ps_retN)) pss_nil)
      (pss_cons (ps_fld (pv 0) (pe_not (pe_fld (pv 0) rfl)) rfl)
      (pss_one (ps_if (pt_not (pt_val (pe_fld (pv 0) rfl))) (pss_one (ps_fld (pv 0) (C8.pe_gc rfl T.c_SIZE) rfl)) pss_nil))))), ?_⟩
    refine ⟨_, rfl, _, rfl, p, A.RD, dx, _, _, rfl, hp, T.cl_Reader, T.n_Reader_is_ending, rfs_is_ending _ _ _, _, rfl, ?_⟩
    have two : ∀ (h : Bool) (w : Int), s.ending = h → w = (if h then 10 else 13) → ∃ k, V.bl (!decide (V.int o = V.int w)) = V.bl k ∧ True := fun _ _ _ _ => ⟨_, rfl, trivial⟩
    cases q : s.ending with
    | true =>
      refine iteT ⟨rfl, _, rfl, ?_⟩
      rw [dec_vi]
      refine ite2 (fun h1 => ?_) (fun h1 => ?_)
      · have h1' : o ≠ 10 := by simpa using h1
        refine ⟨_, rfl, p, dx, _, rfl, hp, rfs_no_fail _ _ _, _, rfl, p, fo, kd, R, b, s, es, "chunk", rfl, hR, hl, fun H' hh => hk H' ?_⟩
        have e : readChunkEnd s o = failM "chunk" s := by
          unfold readChunkEnd
          rw [q]
          exact if_pos h1'
        rw [e]
        exact hh
      · have h1' : o = 10 := by simpa using h1
        refine ⟨_, rfl, p, A.RD, dx, _, _, rfl, hp, T.cl_Reader, T.n_Reader_is_ending, rfs_is_ending _ _ _, _, rfl, _, rfl, p, A.RD, dx, _, rfl, hp, T.cl_Reader, T.n_Reader_is_ending, (by show 15 < 1000; decide), ?_⟩
        rw [put_is_ending]
        have c1 := c0.sc (s2 := { s with ending := !s.ending }) (dx := dx)
        obtain ⟨dx1, hp1⟩ := c1.rf.at_
        refine ⟨_, rfl, p, A.RD, dx1, _, _, rfl, hp1, T.cl_Reader, T.n_Reader_is_ending, rfs_is_ending _ _ _, _, rfl, ?_⟩
        refine ite2 (fun h2 => ?_) (fun h2 => absurd (show (!(!s.ending)) = true by rw [q]; rfl) h2)
        refine ⟨_, rfl, p, A.RD, dx1, _, rfl, hp1, T.cl_Reader, T.n_Reader_part, (by show 15 < 1000; decide), ?_⟩
        rw [put_part]
        refine (c1.sc (s2 := { s with ending := !s.ending, part := "size" }) (dx := dx1)).out hk ?_
        unfold readChunkEnd
        rw [q]
        exact if_neg (fun z => z h1')
    | false =>
      refine iteF ⟨rfl, _, rfl, ?_⟩
      rw [dec_vi]
      refine ite2 (fun h1 => ?_) (fun h1 => ?_)
      · have h1' : o ≠ 13 := by simpa using h1
        refine ⟨_, rfl, p, dx, _, rfl, hp, rfs_no_fail _ _ _, _, rfl, p, fo, kd, R, b, s, es, "chunk", rfl, hR, hl, fun H' hh => hk H' ?_⟩
        have e : readChunkEnd s o = failM "chunk" s := by
          unfold readChunkEnd
          rw [q]
          exact if_pos h1'
        rw [e]
        exact hh
      · have h1' : o = 13 := by simpa using h1
        refine ⟨_, rfl, p, A.RD, dx, _, _, rfl, hp, T.cl_Reader, T.n_Reader_is_ending, rfs_is_ending _ _ _, _, rfl, _, rfl, p, A.RD, dx, _, rfl, hp, T.cl_Reader, T.n_Reader_is_ending, (by show 15 < 1000; decide), ?_⟩
        rw [put_is_ending]
        have c1 := c0.sc (s2 := { s with ending := !s.ending }) (dx := dx)
        obtain ⟨dx1, hp1⟩ := c1.rf.at_
        refine ⟨_, rfl, p, A.RD, dx1, _, _, rfl, hp1, T.cl_Reader, T.n_Reader_is_ending, rfs_is_ending _ _ _, _, rfl, ?_⟩
        refine ite2 (fun h2 => absurd (show (!(!s.ending)) = false by rw [q]; rfl) (by rw [show (!(!s.ending)) = true from h2]; exact Bool.noConfusion)) (fun h2 => ?_)
        refine c1.out hk ?_
        unfold readChunkEnd
        rw [q]
        exact if_neg (fun z => z h1')
/-! ### Reader.end_message -/
def sp_Reader_end_message : Sp := fun vs H Q _ => ∃ (p fo : Addr) (kd : Str) (R : RA) (b : Bk) (s : RS) (es : List Evt) (f : Addr) (fs : List Fld), vs = [.ref p, .ref f, .ref fo] ∧ RF A H p fo kd R b s es ∧ FT H f fs ∧ es.length ≤ 10 ∧ (kd = RESPS → s.asks ≠ []) ∧ MO A p fo kd b R es (endMsg kd s fs) H Q
abbrev N_Reader_end_message : List Str := ["self", "fields", "found", "asked"]
theorem sc_Reader_end_message : FnScope N_Reader_end_message ["self", "fields", "found"] (defScope s_Reader_end_message) := ⟨rfl, rfl, rfl, by decide +kernel, rfl, by decide +kernel, by decide +kernel⟩
theorem h_Reader_end_message (T : Txt K w mg A) : HasM CX0 P w K mg base A.RD "end_message" 3 ["self", "fields", "found"] (sp_Reader_end_message (A := A)) := by
  refine hasM0 (k := 2) T.d_Reader_end_message sc_Reader_end_message (fun _ _ _ _ _ _ us hl => match us, hl with | [_, _, _], _ => rfl) (fun vs H Q E h => ?_) (fun f cdv A0 outer s H vs Q E hr h => ?_)
  · obtain ⟨p, fo, kd, R, b, s, es, f, fs, rfl, _⟩ := h
    rfl
  · obtain ⟨p, fo, kd, R, b, s, es, f, fs, rfl, hR, hf, hl, ha, hk⟩ := h
    have c0 := Cur.start hR
    obtain ⟨xs, he, pe⟩ := c0.rf.ev
    have lx := pe.length
    refine ⟨_, ((pss_cons (ps_expr (pe_bm PySem.F.plainAttrs_list PySem.F.slot_list_append PySem.F.type_list_append mt_append (pv 2) (pa_cons (pe_tup (pa_cons (C8.pe_gc rfl T.c_END) (pa_cons (pv 1) pa_nil))) pa_nil)))
      (pss_cons (ps_fld (pv 0) (C8.pe_gc rfl T.c_NONE) rfl)
      (pss_one (ps_if (pt_cmpR op_eq (pe_fld (pv 0) rfl) (C8.pe_gc rfl T.c_RESPONSES) (nomark _)) (pss_cons (ps_set (i := 3) sc_Reader_end_message.nd rfl (.inl rfl) (pe_bm PySem.F.plainAttrs_list PySem.F.slot_list_pop PySem.F.type_list_pop mt_popAt (pe_fld (pv 0) rfl) (pa_cons pe_int pa_nil)))
      (pss_one (ps_fld (pv 0) (pe_ifExp (PW.pt (pw_or (pt_val (pe_fld (pv 0) rfl)) (pw_or1 (pt_val (pe_fld (pv 3) rfl))))) (C8.pe_gc rfl T.c_OVER) (C8.pe_gc rfl T.c_START)) rfl))) (pss_one (ps_if (PW.pt (pw_and (pt_val (pe_mt0 (pe_fld (pv 0) rfl) T.cl_Message (h_Message_asks_switch T) (hr.mono (by decide)) paN)) (pw_and1 (pt_not (pt_val (pe_fld (pv 0) rfl)))))) (pss_one (ps_fld (pv 0) (C8.pe_gc rfl T.c_WAITING) rfl)) (pss_one (ps_fld (pv 0) (pe_ifExp (pt_val (pe_fld (pv 0) rfl)) (C8.pe_gc rfl T.c_OVER) (C8.pe_gc rfl T.c_START)) rfl))))))))), ?_⟩
    refine ⟨_, rfl, Or.inl ⟨rfl, _, SqL.of he⟩, _, rfl, by show 2 ≤ sizeLine; decide, fun t ht => ?_⟩
    have e1 : Ex H (upd H t (.tup [.str "end", .ref f])) := Ex.new ht
    have c1 := c0.ex e1
    have he1 := e1 _ _ he
    refine ⟨fo, xs, .ref t, rfl, rfl, he1, Nat.lt_of_le_of_lt (by omega : xs.length ≤ 10) (by decide), ?_⟩
    have c2 := c1.push he1 (x := .ref t) (e := .fin fs) ⟨t, _, rfl, upd_same, f, rfl, hf.mono (Tk.of e1)⟩ (evs_mono (Tk.of e1) pe)
    obtain ⟨dx2, hp2⟩ := c2.rf.at_
    refine ⟨_, rfl, p, A.RD, dx2, _, rfl, hp2, T.cl_Reader, T.n_Reader_part, (by show 15 < 1000; decide), ?_⟩
    rw [put_part]
    obtain ⟨H3, hH3, c3⟩ : ∃ H3, upd _ p (.ins A.RD dx2 (rfs kd R { s with part := "" })) = H3 ∧ Cur A p fo kd b R H H3 R { s with part := "" } (es ++ [.fin fs]) := ⟨_, rfl, c2.sc (s2 := { s with part := "" }) (dx := dx2)⟩
    rw [hH3]
    obtain ⟨dx3, hp3⟩ := c3.rf.at_
    refine ⟨_, rfl, p, A.RD, dx3, _, _, rfl, hp3, T.cl_Reader, T.n_Reader_kind, rfs_kind _ _ _, rfl, _, rfl, ?_⟩
    rw [dec_vs]
    refine ite2 (fun h1 => ?_) (fun h1 => ?_)
    · have h1' : kd = RESPS := of_decide_eq_true h1
      obtain ⟨ms, hms, pms⟩ := c3.rf.co.ex
      cases qa : s.asks with
      | nil => exact absurd qa (ha h1')
      | cons a0 ar =>
        have pms' : Paired (MsgAt A _) ms (a0 :: ar) := qa ▸ pms
        cases pms' with
        | @cons x0 _ xr _ r0 rr =>
          refine ⟨_, rfl, p, A.RD, dx3, _, _, rfl, hp3, T.cl_Reader, T.n_Reader_expected, rfs_expected _ _ _, Or.inl ⟨rfl, _, SqL.of hms⟩, _, _, 0, 0, x0, rfl, rfl, hms, by decide, by decide, (by simp [seqIndex?]), rfl, ?_⟩
          have c4 := c3.asks' (ms2 := xr) (as2 := ar) rr
          obtain ⟨dx4, hp4⟩ := c4.rf.at_
          have eo : endMsg kd s fs = ({ s with part := "", asks := ar, now := if s.last || a0.last then "over" else "start" }, [.fin fs]) := by
            unfold endMsg
            rw [if_pos h1', qa]
            rfl
          refine ⟨_, rfl, p, A.RD, dx4, _, _, rfl, hp4, T.cl_Reader, T.n_Reader_is_last, rfs_is_last _ _ _, _, rfl, ?_⟩
          refine ite2 (fun h2 => ?_) (fun h2 => ?_)
          · refine ⟨_, rfl, p, A.RD, dx4, _, rfl, hp4, T.cl_Reader, T.n_Reader_now, (by show 15 < 1000; decide), ?_⟩
            rw [put_now]
            have h2' : s.last = true := h2
            exact (c4.sc (s2 := { s with part := "", asks := ar, now := "over" }) (dx := dx4)).out2 hk (by rw [eo, h2']; rfl)
          · have h2' : s.last = false := by simpa using h2
            obtain ⟨ma, mdx, rfl, hm⟩ := r0
            have hm4 := c4.rf.co.ms
            refine ⟨_, rfl, ma, A.MS, mdx, _, _, rfl, ?_, T.cl_Message, T.n_Message_last, mfs_last a0, _, rfl, ?_⟩
            · exact (upd_ne (fun z => by rw [z, hms] at hm; cases hm)).trans hm
            · refine ite2 (fun h3 => ?_) (fun h3 => ?_)
              · refine ⟨_, rfl, p, A.RD, dx4, _, rfl, hp4, T.cl_Reader, T.n_Reader_now, (by show 15 < 1000; decide), ?_⟩
                rw [put_now]
                have h3' : a0.last = true := h3
                exact (c4.sc (s2 := { s with part := "", asks := ar, now := "over" }) (dx := dx4)).out2 hk (by rw [eo, h2', h3']; rfl)
              · have h3' : a0.last = false := by simpa using h3
                refine ⟨_, rfl, p, A.RD, dx4, _, rfl, hp4, T.cl_Reader, T.n_Reader_now, (by show 15 < 1000; decide), ?_⟩
                rw [put_now]
                exact (c4.sc (s2 := { s with part := "", asks := ar, now := "start" }) (dx := dx4)).out2 hk (by rw [eo, h2', h3']; rfl)
    · have h1' : ¬ kd = RESPS := fun z => h1 (decide_eq_true z)
      obtain ⟨ma, mdx, me, hm⟩ := c3.rf.co.ms
      cases me
      refine ⟨_, rfl, p, A.RD, dx3, _, _, rfl, hp3, T.cl_Reader, T.n_Reader_message, rfs_message _ _ _, _, mdx, _, rfl, hm, mfs_no_asks_switch _, _, s.msg, rfl, ⟨_, mdx, rfl, hm⟩, _, rfl, ?_⟩
      have eo : endMsg kd s fs = (if s.msg.sw then { s with part := "", now := "waiting" } else { s with part := "", now := if s.last then "over" else "start" }, [.fin fs]) := by
        unfold endMsg
        rw [if_neg h1']
      have fin : s.msg.sw = false → ∀ z : Str, z = (if s.last = true then ("over" : Str) else "start") → Q .non (upd H3 p (.ins A.RD dx3 (rfs kd R { s with part := "", now := z }))) := fun h2 z hz => by
        refine (c3.sc (s2 := { s with part := "", now := z }) (dx := dx3)).out2 hk ?_
        rw [eo, h2, hz]
        rfl
      refine ite2 (fun h2 => ?_) (fun h2 => ?_)
      · have h2' : s.msg.sw = true := h2
        refine ⟨_, rfl, p, A.RD, dx3, _, _, rfl, hp3, T.cl_Reader, T.n_Reader_skips_wait, rfs_skips_wait _ _ _, _, rfl, iteT ?_⟩
        refine ⟨_, rfl, p, A.RD, dx3, _, rfl, hp3, T.cl_Reader, T.n_Reader_now, (by show 15 < 1000; decide), ?_⟩
        rw [put_now]
        exact (c3.sc (s2 := { s with part := "", now := "waiting" }) (dx := dx3)).out2 hk (by rw [eo, h2']; rfl)
      · have h2' : s.msg.sw = false := by simpa using h2
        refine ⟨_, rfl, p, A.RD, dx3, _, _, rfl, hp3, T.cl_Reader, T.n_Reader_is_last, rfs_is_last _ _ _, _, rfl, ?_⟩
        refine ite2 (fun h3 => ?_) (fun h3 => ?_)
        · have h3' : s.last = true := h3
          refine ⟨_, rfl, p, A.RD, dx3, _, rfl, hp3, T.cl_Reader, T.n_Reader_now, (by show 15 < 1000; decide), ?_⟩
          rw [put_now]
          exact fin h2' _ (by rw [h3']; rfl)
        · have h3' : s.last = false := by simpa using h3
          refine ⟨_, rfl, p, A.RD, dx3, _, rfl, hp3, T.cl_Reader, T.n_Reader_now, (by show 15 < 1000; decide), ?_⟩
          rw [put_now]
          exact fin h2' _ (by rw [h3']; rfl)
end
end K32

namespace K32
open PySem PySem.Spec PyProof.Rows L2
/-! ### a class made by positional values -/
structure HasI (P : Program) (w : World) (K : PySem.W.Frag) (mg : Str → Option Value) (base : Heap) (x : Str) (C : Addr) (k : Nat) (ps : List Str) (sp : Sp) : Prop where
  ex : ∃ f fd, mg x = some (.ref C) ∧ Mk K C f ∧ Binds K fd ps [] ∧ FnOk P w K mg base CX0 k f fd ps sp
section
variable {X : Cx} {k : Nat} {C : Addr} {ps : List Str} {sp : Sp} {x : Str} {q pos : Pos} {e : Expr} {es : List Expr} {t : TA}
theorem pe_mkI (h : HasI X.prog X.w X.K X.mg X.base x C k ps sp) (hr : Room (k + 1) X.A) (ha : PA X (e :: es) t) (hg : Gl X x := by rfl) (hdb : (x == ("__debug__" : Str)) = false := by decide)
    (he : starEach (e :: es) X.env = (false, eval e X.env) :: starEach es X.env := by rfl) (hpl : (backTo pos (starEach es X.env)).any (·.1) = false := by rfl) :
    PE X (.Call (.Name x q) (e :: es) [] pos) (tMake C sp [] (fun _ _ _ => False) t) := by
  obtain ⟨f, fd, hm, M, hb, F⟩ := h.ex
  exact pe_make M F hr hg hm hb .nil (fun _ _ _ _ _ _ _ z => z.elim) ha hdb he hpl
end
section
variable {P : Program} {w : World} {K : PySem.W.Frag} {mg : Str → Option Value} {base : Heap} {A : Adr}
theorem mk_ex {H H' : Hp} {x dx C : Addr} (hx : H x = none) (hd : H dx = none) (h : ∀ a, a ≠ x → H' a = (upd (upd H dx (.own x)) x (.ins C dx [])) a) : Ex H H' := fun a o ha => by
  have e1 := ne_of_none ha hx
  have e2 := ne_of_none ha hd
  rw [h a e1, upd_ne e1, upd_ne e2]
  exact ha
def sp_Message_init : Sp := fun vs H Q _ => ∃ (a : Addr) (m : Ask) (dx : Addr), vs = [.ref a, .str m.method, .bl m.up, .bl m.last] ∧ H a = some (.ins A.MS dx []) ∧ ∀ H', H' a = some (.ins A.MS dx (mfs m)) → (∀ c, c ≠ a → H' c = H c) → Q .non H'
abbrev N_Message_init : List Str := ["self", "method", "upgrade", "last"]
theorem sc_Message_init : FnScope N_Message_init ["self", "method", "upgrade", "last"] (defScope s_Message_init) := ⟨rfl, rfl, rfl, by decide +kernel, rfl, by decide +kernel, by decide +kernel⟩
theorem hi_Message (T : Txt K w mg A) : HasI P w K mg base "Message" A.MS 1 ["self", "method", "upgrade", "last"] (sp_Message_init (A := A)) := by
  obtain ⟨f, fd, M, F⟩ := T.d_Message_init.ex
  refine ⟨f, fd, T.g_Message, M, F.bindsN (fun _ _ _ _ _ _ us hl => match us, hl with | [_, _, _, _], _ => rfl), F.ok (k := 0) sc_Message_init (fun vs H Q E h => ?_) fun cdv A0 outer s H vs Q E hr h => ?_⟩
  · obtain ⟨a, m, dx, rfl, _⟩ := h
    rfl
  · obtain ⟨a, m, dx, rfl, ha, k⟩ := h
    have G : PSs (cxOf CX0 P w K mg base N_Message_init "Message.__init__" (defScope s_Message_init) f cdv A0 outer s H E).nox (defBody s_Message_init) _ := ((pss_cons (ps_fld (pv 0) (pv 1) rfl)
      (pss_cons (ps_fld (pv 0) (pv 2) rfl)
      (pss_one (ps_fld (pv 0) (pv 3) rfl)))))
    refine ⟨_, G.nox, ?_⟩
    refine ⟨_, rfl, _, rfl, a, A.MS, dx, _, rfl, ha, T.cl_Message, T.n_Message_method, (by show 0 < 1000; decide), ?_⟩
    refine ⟨_, rfl, _, rfl, a, A.MS, dx, _, rfl, upd_same, T.cl_Message, T.n_Message_upgrade, (by show 1 < 1000; decide), ?_⟩
    refine ⟨_, rfl, _, rfl, a, A.MS, dx, _, rfl, upd_same, T.cl_Message, T.n_Message_last, (by show 2 < 1000; decide), ?_⟩
    refine k _ ?_ (fun c hc => by rw [upd_ne hc, upd_ne hc, upd_ne hc])
    rw [upd_same]
    have h1 : ¬ (("method" : Str) = "upgrade") := by decide +kernel
    have h2 : ¬ (("method" : Str) = "last") := by decide +kernel
    have h3 : ¬ (("upgrade" : Str) = "last") := by decide +kernel
    simp [putF, mfs, h1, h2, h3]
/-! ### frames as data -/
def frD : Fr → PyData
  | .chunked => .tuple [.str "chunked"]
  | .len n => .tuple [.str "length", .int n]
  | .info => .tuple [.str "info"]
  | .switch => .tuple [.str "switch"]
  | .close => .tuple [.str "close"]
theorem frD_dp {H : Hp} {t : Addr} {fr : Fr} (h : H t = some (.tup fr.v)) : Dp K H (.ref t) (frD fr) := by
  cases fr with
  | len n => exact .tup (SqT.of h) (.cons (.str _) (.cons (.int _) .nil))
  | chunked => exact .tup (SqT.of h) (.cons (.str _) .nil)
  | info => exact .tup (SqT.of h) (.cons (.str _) .nil)
  | switch => exact .tup (SqT.of h) (.cons (.str _) .nil)
  | close => exact .tup (SqT.of h) (.cons (.str _) .nil)
theorem one_dp {H : Hp} {t : Addr} {z : Str} (h : H t = some (.tup [.str z])) : Dp K H (.ref t) (.tuple [.str z]) := .tup (SqT.of h) (.cons (.str _) .nil)
theorem frD_sh (fr : Fr) : SeqAt.shaped (frD fr) = true := by
  cases fr with
  | len n =>
    have h : PyData.strOk ("length" : Str) = true := by decide +kernel
    first
      | exact rfl
      | (simp [SeqAt.shaped, frD, PyData.canLay0, PyData.canLayAll0, PyData.depth, PyData.depthAll, h])
  | chunked => decide +kernel
  | info => decide +kernel
  | switch => decide +kernel
  | close => decide +kernel
theorem eq_info (fr : Fr) : PyData.eqv (frD fr) (.tuple [.str "info"]) = decide (fr = .info) := by
  cases fr with
  | len n =>
    have h : (("length" : Str) == "info") = false := by decide +kernel
    simp [frD, PyData.eqv, PyData.eqvAll, h]
  | chunked => decide +kernel
  | info => decide +kernel
  | switch => decide +kernel
  | close => decide +kernel
theorem eq_chunked (fr : Fr) : PyData.eqv (frD fr) (.tuple [.str "chunked"]) = decide (fr = .chunked) := by
  cases fr with
  | len n =>
    have h : (("length" : Str) == "chunked") = false := by decide +kernel
    simp [frD, PyData.eqv, PyData.eqvAll, h]
  | chunked => decide +kernel
  | info => decide +kernel
  | switch => decide +kernel
  | close => decide +kernel
theorem eq_close (fr : Fr) : PyData.eqv (frD fr) (.tuple [.str "close"]) = decide (fr = .close) := by
  cases fr with
  | len n =>
    have h : (("length" : Str) == "close") = false := by decide +kernel
    simp [frD, PyData.eqv, PyData.eqvAll, h]
  | chunked => decide +kernel
  | info => decide +kernel
  | switch => decide +kernel
  | close => decide +kernel
theorem eq_switch (fr : Fr) : PyData.eqv (frD fr) (.tuple [.str "switch"]) = decide (fr = .switch) := by
  cases fr with
  | len n =>
    have h : (("length" : Str) == "switch") = false := by decide +kernel
    simp [frD, PyData.eqv, PyData.eqvAll, h]
  | chunked => decide +kernel
  | info => decide +kernel
  | switch => decide +kernel
  | close => decide +kernel
/-! ### Reader.begin_body -/
def sp_Reader_begin_body : Sp := fun vs H Q _ => ∃ (p fo : Addr) (kd : Str) (R : RA) (b : Bk) (s : RS) (es : List Evt) (t : Addr) (fr : Fr), vs = [.ref p, .ref t, .ref fo] ∧ RF A H p fo kd R b s es ∧ H t = some (.tup fr.v) ∧ es.length ≤ 9 ∧ (kd = RESPS → s.asks ≠ []) ∧ MO A p fo kd b R es (beginBody kd s fr) H Q
abbrev N_Reader_begin_body : List Str := ["self", "frame", "found"]
theorem sc_Reader_begin_body : FnScope N_Reader_begin_body ["self", "frame", "found"] (defScope s_Reader_begin_body) := ⟨rfl, rfl, rfl, by decide +kernel, rfl, by decide +kernel, by decide +kernel⟩
theorem h_Reader_begin_body (T : Txt K w mg A) : HasM CX0 P w K mg base A.RD "begin_body" 5 ["self", "frame", "found"] (sp_Reader_begin_body (A := A)) := by
  refine hasM0 (k := 4) T.d_Reader_begin_body sc_Reader_begin_body (fun _ _ _ _ _ _ us hl => match us, hl with | [_, _, _], _ => rfl) (fun vs H Q E h => ?_) (fun f cdv A0 outer s H vs Q E hr h => ?_)
  · obtain ⟨p, fo, kd, R, b, s, es, t, fr, rfl, _⟩ := h
    rfl
  · obtain ⟨p, fo, kd, R, b, s, es, t, fr, rfl, hR, hf, hl, ha, hk⟩ := h
    have c0 := Cur.start hR
    obtain ⟨dx, hp⟩ := c0.rf.at_
    have pt : t ≠ p := fun z => by rw [z, hp] at hf; cases hf
    refine ⟨_, ((pss_cons (ps_fld (pv 0) (C8.pe_gc rfl T.c_BODY) rfl)
      (pss_cons (ps_fld (pv 0) (C8.pe_gc rfl T.c_NONE) rfl)
      (pss_one (ps_if (pt_cmpR (op_eqD hr.units) (pv 1) (pe_tup (pa_cons pe_str pa_nil)) (nomark _)) (pss_one (ps_fld (pv 0) (C8.pe_gc rfl T.c_START) rfl)) (pss_one (ps_if (pt_cmpR (op_eqD hr.units) (pv 1) (pe_tup (pa_cons pe_str pa_nil)) (nomark _)) (pss_one (ps_fld (pv 0) (C8.pe_gc rfl T.c_SIZE) rfl)) (pss_one (ps_if (pt_cmpR (op_eqD hr.units) (pv 1) (pe_tup (pa_cons pe_str pa_nil)) (nomark _)) (pss_cons (ps_fld (pv 0) (C8.pe_gc rfl T.c_REST) rfl)
      (pss_one (ps_fld (pv 0) pe_bl rfl))) (pss_one (ps_if (pt_cmpR (op_eqD hr.units) (pv 1) (pe_tup (pa_cons pe_str pa_nil)) (nomark _)) (pss_cons (ps_expr (pe_mt (pv 0) T.cl_Reader (h_Reader_end_message T) (hr.mono (by decide)) paN (pa_cons (pe_tup pa_nil) (pa_cons (pv 2) pa_nil))))
      (pss_one (ps_fld (pv 0) (C8.pe_gc rfl T.c_SWITCHED) rfl))) (pss_one (ps_if (pt_cmpR op_eq (pe_ix ix_tup (pv 1) pe_int (fun _ _ => rfl)) pe_int (nomark _)) (pss_one (ps_expr (pe_mt (pv 0) T.cl_Reader (h_Reader_end_message T) (hr.mono (by decide)) paN (pa_cons (pe_tup pa_nil) (pa_cons (pv 2) pa_nil))))) (pss_cons (ps_fld (pv 0) (C8.pe_gc rfl T.c_LENGTH_reader) rfl)
      (pss_one (ps_fld (pv 0) (pe_ix ix_tup (pv 1) pe_int (fun _ _ => rfl)) rfl)))))))))))))))), ?_⟩
    refine ⟨_, rfl, p, A.RD, dx, _, rfl, hp, T.cl_Reader, T.n_Reader_now, (by show 15 < 1000; decide), ?_⟩
    rw [put_now]
    have c1 := c0.sc (s2 := { s with now := "body" }) (dx := dx)
    obtain ⟨dx1, hp1⟩ := c1.rf.at_
    refine ⟨_, rfl, p, A.RD, dx1, _, rfl, hp1, T.cl_Reader, T.n_Reader_part, (by show 15 < 1000; decide), ?_⟩
    rw [put_part]
    obtain ⟨H2, hH2, c2, hf2⟩ : ∃ H2, upd _ p (.ins A.RD dx1 (rfs kd R { s with now := "body", part := "" })) = H2 ∧ Cur A p fo kd b R H H2 R { s with now := "body", part := "" } es ∧ H2 t = some (.tup fr.v) := ⟨_, rfl, c1.sc (s2 := { s with now := "body", part := "" }) (dx := dx1), ((upd_ne pt).trans (upd_ne pt)).trans hf⟩
    rw [hH2]
    clear hp1 hH2 c1
    refine ⟨_, rfl, by show 1 ≤ sizeLine; decide, fun q1 hq1 => ?_⟩
    have e1 : Ex H2 (upd H2 q1 (.tup [.str "info"])) := Ex.new hq1
    refine ⟨frD fr, .tuple [.str "info"], frD_dp (e1 _ _ hf2), one_dp upd_same, frD_sh fr, by decide +kernel, _, rfl, ?_⟩
    rw [eq_info]
    have c3 := c2.ex e1
    obtain ⟨dx3, hp3⟩ := c3.rf.at_
    refine ite2 (fun t1 => ?_) (fun t1 => ?_)
    · have t1' := of_decide_eq_true t1
      subst t1'
      refine ⟨_, rfl, p, A.RD, dx3, _, rfl, hp3, T.cl_Reader, T.n_Reader_now, (by show 15 < 1000; decide), ?_⟩
      rw [put_now]
      exact (c3.sc (s2 := { s with now := "start", part := "" }) (dx := dx3)).out hk rfl
    · have t1' : fr ≠ .info := fun z => t1 (decide_eq_true z)
      refine ⟨_, rfl, by show 1 ≤ sizeLine; decide, fun q2 hq2 => ?_⟩
      have e2 := e1.tr (Ex.new (o := .tup [.str "chunked"]) hq2)
      refine ⟨frD fr, .tuple [.str "chunked"], frD_dp (e2 _ _ hf2), one_dp upd_same, frD_sh fr, by decide +kernel, _, rfl, ?_⟩
      rw [eq_chunked]
      have c4 := c2.ex e2
      obtain ⟨dx4, hp4⟩ := c4.rf.at_
      refine ite2 (fun t2 => ?_) (fun t2 => ?_)
      · have t2' := of_decide_eq_true t2
        subst t2'
        refine ⟨_, rfl, p, A.RD, dx4, _, rfl, hp4, T.cl_Reader, T.n_Reader_part, (by show 15 < 1000; decide), ?_⟩
        rw [put_part]
        exact (c4.sc (s2 := { s with now := "body", part := "size" }) (dx := dx4)).out hk rfl
      · have t2' : fr ≠ .chunked := fun z => t2 (decide_eq_true z)
        refine ⟨_, rfl, by show 1 ≤ sizeLine; decide, fun q3 hq3 => ?_⟩
        have e3 := e2.tr (Ex.new (o := .tup [.str "close"]) hq3)
        refine ⟨frD fr, .tuple [.str "close"], frD_dp (e3 _ _ hf2), one_dp upd_same, frD_sh fr, by decide +kernel, _, rfl, ?_⟩
        rw [eq_close]
        have c5 := c2.ex e3
        obtain ⟨dx5, hp5⟩ := c5.rf.at_
        refine ite2 (fun t3 => ?_) (fun t3 => ?_)
        · have t3' := of_decide_eq_true t3
          subst t3'
          refine ⟨_, rfl, p, A.RD, dx5, _, rfl, hp5, T.cl_Reader, T.n_Reader_part, (by show 15 < 1000; decide), ?_⟩
          rw [put_part]
          have c6 := c5.sc (s2 := { s with now := "body", part := "rest" }) (dx := dx5)
          obtain ⟨dx6, hp6⟩ := c6.rf.at_
          refine ⟨_, rfl, p, A.RD, dx6, _, rfl, hp6, T.cl_Reader, T.n_Reader_is_last, (by show 15 < 1000; decide), ?_⟩
          rw [put_is_last]
          exact (c6.sc (s2 := { s with now := "body", part := "rest", last := true }) (dx := dx6)).out hk rfl
        · have t3' : fr ≠ .close := fun z => t3 (decide_eq_true z)
          refine ⟨_, rfl, by show 1 ≤ sizeLine; decide, fun q4 hq4 => ?_⟩
          have e4 := e3.tr (Ex.new (o := .tup [.str "switch"]) hq4)
          refine ⟨frD fr, .tuple [.str "switch"], frD_dp (e4 _ _ hf2), one_dp upd_same, frD_sh fr, by decide +kernel, _, rfl, ?_⟩
          rw [eq_switch]
          have c6 := c2.ex e4
          obtain ⟨dx6, hp6⟩ := c6.rf.at_
          refine ite2 (fun t4 => ?_) (fun t4 => ?_)
          · have t4' := of_decide_eq_true t4
            subst t4'
            refine ⟨_, rfl, p, dx6, _, rfl, hp6, rfs_no_end_message _ _ _, Nat.zero_le _, fun n hn => ?_⟩
            have c7 := c6.ex (Ex.new (o := .tup []) hn)
            refine ⟨_, rfl, p, fo, kd, R, b, _, es, n, [], rfl, c7.rf, ⟨[], upd_same, .nil⟩, by omega, ha, fun H8 h8 => ?_⟩
            obtain ⟨R8, c8⟩ := (c7.tr h8).cur
            obtain ⟨dx8, hp8⟩ := c8.rf.at_
            refine ⟨_, rfl, p, A.RD, dx8, _, rfl, hp8, T.cl_Reader, T.n_Reader_now, (by show 15 < 1000; decide), ?_⟩
            rw [put_now]
            exact (c8.sc (s2 := { (endMsg kd { s with now := "body", part := "" } []).1 with now := "raw" }) (dx := dx8)).out2 hk rfl
          · have t4' : fr ≠ .switch := fun z => t4 (decide_eq_true z)
            obtain ⟨n, rfl⟩ : ∃ n, fr = .len n := by
              cases fr with
              | len n => exact ⟨n, rfl⟩
              | chunked => exact absurd rfl t2'
              | info => exact absurd rfl t1'
              | switch => exact absurd rfl t4'
              | close => exact absurd rfl t3'
            have hf6 := e4 _ _ hf2
            refine ⟨_, rfl, t, _, _, _, rfl, rfl, SqT.of hf6, at1 _ _ _, rfl, _, rfl, ?_⟩
            rw [dec_vi]
            refine ite2 (fun t5 => ?_) (fun t5 => ?_)
            · have t5' := of_decide_eq_true t5
              refine ⟨_, rfl, p, dx6, _, rfl, hp6, rfs_no_end_message _ _ _, Nat.zero_le _, fun m hm => ?_⟩
              have c7 := c6.ex (Ex.new (o := .tup []) hm)
              refine ⟨_, rfl, p, fo, kd, R, b, _, es, m, [], rfl, c7.rf, ⟨[], upd_same, .nil⟩, by omega, ha, fun H8 h8 => ?_⟩
              refine hk _ ?_
              have eb : beginBody kd s (.len n) = endMsg kd { s with now := "body", part := "" } [] := if_pos t5'
              rw [eb]
              exact c7.tr h8
            · have t5' : ¬ n = 0 := fun z => t5 (decide_eq_true z)
              refine ⟨_, rfl, p, A.RD, dx6, _, rfl, hp6, T.cl_Reader, T.n_Reader_part, (by show 15 < 1000; decide), ?_⟩
              rw [put_part]
              have c7 := c6.sc (s2 := { s with now := "body", part := "length" }) (dx := dx6)
              obtain ⟨dx7, hp7⟩ := c7.rf.at_
              have tp : t ≠ p := pt
              refine ⟨_, rfl, t, _, _, _, rfl, rfl, SqT.of ((upd_ne tp).trans hf6), at1 _ _ _, _, rfl, p, A.RD, dx7, _, rfl, hp7, T.cl_Reader, T.n_Reader_left, (by show 15 < 1000; decide), ?_⟩
              rw [put_left]
              exact (c7.sc (s2 := { s with now := "body", part := "length", left := n }) (dx := dx7)).out hk (if_neg t5')
end
end K32

namespace K32
open PySem PySem.Spec PyProof.Rows L2
section
variable {P : Program} {w : World} {K : PySem.W.Frag} {mg : Str → Option Value} {base : Heap} {A : Adr}
/-- an error of a kind, the reader in a state -/
def ME (A : Adr) (p fo : Addr) (kd : Str) (b : Bk) (R : RA) (es : List Evt) (s1 : RS) (k : Str) (H : Hp) (E : XK) : Prop := ∀ C, (C = A.BL ∨ C = A.BF) → ∀ d H', H d = none → Po A p fo kd b R s1 es H H' → H' d = some (.xd [("kind", .str k)]) → k.length ≤ 100 → E (.ref C) (some d) H'
def MX (A : Adr) (p fo : Addr) (kd : Str) (b : Bk) (R : RA) (es : List Evt) (o : OutX) (H : Hp) (Q : VK) (E : XK) : Prop := (∀ r, o = .ok r → MO A p fo kd b R es r H Q) ∧ (∀ s1 k, o = .error (s1, k) → ME A p fo kd b R es s1 k H E)
/-- an error of a called def -/
theorem MX.errL {p fo : Addr} {kd : Str} {b : Bk} {R Rn : RA} {es : List Evt} {o : OutX} {s1 : RS} {k : Str} {H Hn : Hp} {Q : VK} {E : XK} (h : MX A p fo kd b R es o H Q E) (e : o = .error (s1, k)) (hl : k.length ≤ 100) (c : Cur A p fo kd b R H Hn Rn s1 es) (hf : ∀ d, Hn d = none → H d = none) : ErrP A.BL k Hn E :=
  fun d H' hd e2 hx => h.2 s1 k e A.BL (.inl rfl) d H' (hf d hd) (c.ex e2).po hx hl
theorem MX.errF {p fo : Addr} {kd : Str} {b : Bk} {R Rn : RA} {es : List Evt} {o : OutX} {s1 : RS} {k : Str} {H Hn : Hp} {Q : VK} {E : XK} (h : MX A p fo kd b R es o H Q E) (e : o = .error (s1, k)) (hl : k.length ≤ 100) (c : Cur A p fo kd b R H Hn Rn s1 es) (hf : ∀ d, Hn d = none → H d = none) : ErrP A.BF k Hn E :=
  fun d H' hd e2 hx => h.2 s1 k e A.BF (.inr rfl) d H' (hf d hd) (c.ex e2).po hx hl
theorem upd_free {H : Hp} {p d : Addr} {o o' : HO} (h : H p = some o') (hd : (upd H p o) d = none) : H d = none := by
  by_cases e : d = p
  · rw [e, upd_same] at hd
    cases hd
  · rw [upd_ne e] at hd
    exact hd
theorem vOf_len {z k : Str} (h : vOf z = .error k) : k.length ≤ 100 := by
  unfold vOf at h
  split at h
  · cases h
  · split at h
    · cases h
    · split at h <;> (cases h; decide +kernel)
theorem mReq_len {z k : Str} (h : mReq z = .error k) : k.length ≤ 100 := by
  unfold mReq at h
  split at h
  · split at h
    · split at h
      · cases h
      · rename_i e q
        cases h
        exact vOf_len q
    · cases h
      decide +kernel
  · cases h
    decide +kernel
theorem mSta_len {z k : Str} (h : mSta z = .error k) : k.length ≤ 100 := by
  unfold mSta at h
  split at h
  · cases h
    decide +kernel
  · split at h
    · cases h
    · rename_i e q
      cases h
      exact vOf_len q
/-! ### Reader.read_run: one octet of a body -/
def sp_Reader_read_run : Sp := fun vs H Q _ => ∃ (p fo : Addr) (kd : Str) (R : RA) (b : Bk) (s : RS) (es : List Evt) (d : Addr) (o : Int), vs = [.ref p, .ref d, .int 0, .ref fo] ∧ RF A H p fo kd R b s es ∧ H d = some (.lst [.int o]) ∧ d ∉ ownS p fo R ∧ es.length ≤ 8 ∧ (s.part ≠ "rest" → 1 ≤ s.left) ∧ (kd = RESPS → s.asks ≠ []) ∧
  ∀ H', Po A p fo kd b R (readRun kd s o).1 (es ++ (readRun kd s o).2) H H' → Q (.int 1) H'
abbrev N_Reader_read_run : List Str := ["self", "data", "at", "found", "size"]
theorem sc_Reader_read_run : FnScope N_Reader_read_run ["self", "data", "at", "found"] (defScope s_Reader_read_run) := ⟨rfl, rfl, rfl, by decide +kernel, rfl, by decide +kernel, by decide +kernel⟩
theorem h_Reader_read_run (T : Txt K w mg A) : HasM CX0 P w K mg base A.RD "read_run" 6 ["self", "data", "at", "found"] (sp_Reader_read_run (A := A)) := by
  refine hasM0 (k := 5) T.d_Reader_read_run sc_Reader_read_run (fun _ _ _ _ _ _ us hl => match us, hl with | [_, _, _, _], _ => rfl) (fun vs H Q E h => ?_) (fun f cdv A0 outer s H vs Q E hr h => ?_)
  · obtain ⟨p, fo, kd, R, b, s, es, d, o, rfl, _⟩ := h
    rfl
  · obtain ⟨p, fo, kd, R, b, s, es, d, o, rfl, hR, hd, hdn, hl, hleft, ha, hk⟩ := h
    have c0 := Cur.start hR
    obtain ⟨dx, hp⟩ := c0.rf.at_
    -- the event
    have ev : ∀ (Hn : Hp) (sn : RS), Cur A p fo kd b R H Hn R sn es → Hn d = some (.lst [.int o]) → ∀ q, Hn q = none → ∀ t, (upd Hn q (.lst [.int o])) t = none → ∀ u, (upd (upd Hn q (.lst [.int o])) t (.tup [.int o])) u = none →
        ∃ xs, (upd (upd (upd Hn q (.lst [.int o])) t (.tup [.int o])) u (.tup [.str "data", .ref t])) fo = some (.lst xs) ∧ xs.length < sizeLine ∧ Cur A p fo kd b R H (upd (upd (upd (upd Hn q (.lst [.int o])) t (.tup [.int o])) u (.tup [.str "data", .ref t])) fo (.lst (xs ++ [.ref u]))) R sn (es ++ [.run "data" [o]]) := by
      intro Hn sn c hdd q hq t ht u hu
      have e1 := ((Ex.new (o := .lst [.int o]) hq).tr (Ex.new (o := .tup [.int o]) ht)).tr (Ex.new (o := .tup [.str "data", .ref t]) hu)
      have c1 := c.ex e1
      obtain ⟨xs, he, pe⟩ := c.rf.ev
      have lx := pe.length
      have tu : t ≠ u := ne_of_none upd_same hu
      refine ⟨xs, e1 _ _ he, Nat.lt_of_le_of_lt (by omega : xs.length ≤ 10) (by decide), c1.push (e1 _ _ he) ⟨u, _, rfl, upd_same, t, rfl, (upd_ne tu).trans upd_same⟩ (evs_mono (Tk.of e1) pe)⟩
    refine ⟨_, ((pss_cons (ps_set (i := 4) sc_Reader_read_run.nd rfl (.inl rfl) (pe_op op_sub (pe_callB call_len_seq (by rfl) T.b_len PySem.boot_len (pa_cons (pv 1) pa_nil)) (pv 2)))
      (pss_cons (ps_if (pt_cmpR op_ne (pe_fld (pv 0) rfl) (C8.pe_gc rfl T.c_REST) (nomark _)) (pss_cons (ps_set (i := 4) sc_Reader_read_run.nd rfl (.inl rfl) (pe_callB (call_min2 rfl) (by rfl) T.b_min (by decide +kernel) (pa_cons (pv 4) (pa_cons (pe_fld (pv 0) rfl) pa_nil))))
      (pss_one (ps_fldaug (pv 0) (pv 4) in_sub))) pss_nil)
      (pss_cons (ps_expr (pe_bm PySem.F.plainAttrs_list PySem.F.slot_list_append PySem.F.type_list_append mt_append (pv 3) (pa_cons (pe_tup (pa_cons (C8.pe_gc rfl T.c_DATA) (pa_cons (pe_callTy call_tuple_of (by rfl) T.b_tuple (by decide +kernel) (pa_cons (pe_slice sl_list (pv 1) (po_some (pv 2)) (po_some (pe_op op_add (pv 2) (pv 4)))) pa_nil)) pa_nil))) pa_nil)))
      (pss_cons (ps_if (PW.pt (pw_and (pt_cmpR op_ne (pe_fld (pv 0) rfl) (C8.pe_gc rfl T.c_REST) (nomark _)) (pw_and1 (pt_cmpR op_eq (pe_fld (pv 0) rfl) pe_int (nomark _))))) (pss_one (ps_if (pt_cmpR op_eq (pe_fld (pv 0) rfl) (C8.pe_gc rfl T.c_CHUNK) (nomark _)) (pss_one (ps_fld (pv 0) (C8.pe_gc rfl T.c_CHUNK_END) rfl)) (pss_one (ps_expr (pe_mt (pv 0) T.cl_Reader (h_Reader_end_message T) (hr.mono (by decide)) paN (pa_cons (pe_tup pa_nil) (pa_cons (pv 3) pa_nil))))))) pss_nil)
      (pss_one (ps_ret (pv 4)))))))), ?_⟩
    refine ⟨_, rfl, d, _, rfl, Or.inl (SqL.of hd), _, rfl, _, _, rfl, rfl, ?_⟩
    refine ⟨_, rfl, p, A.RD, dx, _, _, rfl, hp, T.cl_Reader, T.n_Reader_part, rfs_part _ _ _, rfl, _, rfl, ?_⟩
    rw [dec_vs]
    refine ite2 (fun h1 => ?_) (fun h1 => ?_)
    · have h1' : s.part ≠ "rest" := by simpa using h1
      have hl1 := hleft h1'
      refine ⟨_, rfl, _, rfl, p, A.RD, dx, _, _, rfl, hp, T.cl_Reader, T.n_Reader_left, rfs_left _ _ _, _, _, rfl, ?_⟩
      have em : (if s.left < (([V.int o].length : Nat) : Int) - 0 then s.left else (([V.int o].length : Nat) : Int) - 0) = 1 := by
        show (if s.left < 1 then s.left else 1) = 1
        rw [if_neg (by omega)]
      rw [em]
      refine ⟨_, rfl, p, A.RD, dx, _, _, rfl, hp, T.cl_Reader, T.n_Reader_left, rfs_left _ _ _, _, rfl, _, _, rfl, rfl, dx, _, hp, (by show 15 < 1000; decide), ?_⟩
      rw [put_left]
      have cN := c0.sc (s2 := { s with left := s.left - 1 }) (dx := dx)
      have hdN : (upd H p (.ins A.RD dx (rfs kd R { s with left := s.left - 1 }))) d = some (.lst [.int o]) := (upd_ne (fun z => hdn (by rw [z]; exact ownS_p))).trans hd
      obtain ⟨xsN, heN, _⟩ := cN.rf.ev
      refine ⟨_, rfl, Or.inl ⟨rfl, _, SqL.of heN⟩, _, rfl, _, rfl, _, rfl, _, rfl, _, rfl, _, _, rfl, rfl, _, rfl, d, _, rfl, SqL.of hdN, fun q hq => ?_⟩
      refine ⟨q, [.int o], rfl, Or.inl ⟨SqL.of upd_same, fun t ht => ?_⟩⟩
      refine ⟨by show 2 ≤ sizeLine; decide, fun u hu => ?_⟩
      obtain ⟨xs2, hx2, lx2, c2⟩ := ev _ _ cN hdN q hq t ht u hu
      refine ⟨fo, xs2, .ref u, rfl, rfl, hx2, lx2, ?_⟩
      obtain ⟨dx2, hp2⟩ := c2.rf.at_
      refine ⟨_, rfl, p, A.RD, dx2, _, _, rfl, hp2, T.cl_Reader, T.n_Reader_part, rfs_part _ _ _, rfl, _, rfl, ?_⟩
      rw [dec_vs]
      refine ite2 (fun h2 => ?_) (fun h2 => absurd h1 h2)
      refine ⟨_, rfl, p, A.RD, dx2, _, _, rfl, hp2, T.cl_Reader, T.n_Reader_left, rfs_left _ _ _, rfl, _, rfl, ?_⟩
      rw [dec_vi]
      have er : readRun kd s o = (if s.left - 1 = 0 then
        if s.part = "chunk" then ({ s with left := s.left - 1, part := "chunk end" }, [.run "data" [o]])
        else ((endMsg kd { s with left := s.left - 1 } []).1, .run "data" [o] :: (endMsg kd { s with left := s.left - 1 } []).2)
        else ({ s with left := s.left - 1 }, [.run "data" [o]])) := if_neg h1'
      refine ite2 (fun h3 => ?_) (fun h3 => ?_)
      · have h3' : s.left - 1 = 0 := of_decide_eq_true h3
        rw [if_pos h3'] at er
        refine ⟨_, rfl, p, A.RD, dx2, _, _, rfl, hp2, T.cl_Reader, T.n_Reader_part, rfs_part _ _ _, rfl, _, rfl, ?_⟩
        rw [dec_vs]
        refine ite2 (fun h4 => ?_) (fun h4 => ?_)
        · have h4' := of_decide_eq_true h4
          rw [if_pos h4'] at er
          refine ⟨_, rfl, p, A.RD, dx2, _, rfl, hp2, T.cl_Reader, T.n_Reader_part, (by show 15 < 1000; decide), ?_⟩
          rw [put_part]
          refine ⟨_, rfl, hk _ ?_⟩
          rw [er]
          exact (c2.sc (s2 := { s with left := s.left - 1, part := "chunk end" }) (dx := dx2)).po
        · have h4' : ¬ s.part = "chunk" := fun z => h4 (decide_eq_true z)
          rw [if_neg h4'] at er
          refine ⟨_, rfl, p, dx2, _, rfl, hp2, rfs_no_end_message _ _ _, Nat.zero_le _, fun n hn => ?_⟩
          have c7 := c2.ex (Ex.new (o := .tup []) hn)
          refine ⟨_, rfl, p, fo, kd, R, b, { s with left := s.left - 1 }, es ++ [Evt.run "data" [o]], n, [], rfl, c7.rf, ⟨[], upd_same, .nil⟩, ?_, ha, fun H8 h8 => ?_⟩
          · rw [List.length_append]
            show _ + 1 ≤ 10
            omega
          · refine ⟨_, rfl, hk _ ?_⟩
            rw [er]
            have := c7.tr h8
            rw [List.append_assoc] at this
            exact this
      · have h3' : ¬ s.left - 1 = 0 := fun z => h3 (decide_eq_true z)
        rw [if_neg h3'] at er
        refine ⟨_, rfl, hk _ ?_⟩
        rw [er]
        exact c2.po
    · have h1' : s.part = "rest" := by simpa using h1
      have cN := c0
      have hdN := hd
      obtain ⟨xsN, heN, _⟩ := cN.rf.ev
      refine ⟨_, rfl, Or.inl ⟨rfl, _, SqL.of heN⟩, _, rfl, _, rfl, _, rfl, _, rfl, _, rfl, _, _, rfl, rfl, _, rfl, d, _, rfl, SqL.of hdN, fun q hq => ?_⟩
      refine ⟨q, [.int o], rfl, Or.inl ⟨SqL.of upd_same, fun t ht => ?_⟩⟩
      refine ⟨by show 2 ≤ sizeLine; decide, fun u hu => ?_⟩
      obtain ⟨xs2, hx2, lx2, c2⟩ := ev _ _ cN hdN q hq t ht u hu
      refine ⟨fo, xs2, .ref u, rfl, rfl, hx2, lx2, ?_⟩
      obtain ⟨dx2, hp2⟩ := c2.rf.at_
      refine ⟨_, rfl, p, A.RD, dx2, _, _, rfl, hp2, T.cl_Reader, T.n_Reader_part, rfs_part _ _ _, rfl, _, rfl, ?_⟩
      rw [dec_vs]
      refine ite2 (fun h2 => absurd h2 h1) (fun h2 => ?_)
      have er : readRun kd s o = (s, [.run "data" [o]]) := if_pos h1'
      refine ⟨_, rfl, hk _ ?_⟩
      rw [er]
      exact c2.po
end
end K32

namespace K32
open PySem PySem.Spec PyProof.Rows L2
section
variable {P : Program} {w : World} {K : PySem.W.Frag} {mg : Str → Option Value} {base : Heap} {A : Adr}
/-! ### Reader.read_start, read_field_line -/
def startO (kd : Str) (s : RS) (z : Str) : OutX :=
  if z = "" ∧ kd = REQS then .ok (s, []) else
  match mStart kd z with
  | .error k => .error (s, k)
  | .ok st => .ok ({ s with start := st, fields := [], now := "head" }, [])
def sp_Reader_read_start : Sp := fun vs H Q E => ∃ (p fo : Addr) (kd : Str) (R : RA) (b : Bk) (s : RS) (es : List Evt) (z : Str), vs = [.ref p, .str z] ∧ RF A H p fo kd R b s es ∧ okS z ∧ z.length ≤ 300 ∧ MX A p fo kd b R es (startO kd s z) H Q E
abbrev N_Reader_read_start : List Str := ["self", "text"]
theorem sc_Reader_read_start : FnScope N_Reader_read_start ["self", "text"] (defScope s_Reader_read_start) := ⟨rfl, rfl, rfl, by decide +kernel, rfl, by decide +kernel, by decide +kernel⟩
theorem h_Reader_read_start (T : Txt K w mg A) : HasM (L2N.CX P w) P w K mg base A.RD "read_start" 5 ["self", "text"] (sp_Reader_read_start (A := A)) := by
  refine hasMX (k := 4) T.d_Reader_read_start sc_Reader_read_start (fun _ _ _ _ _ _ us hl => match us, hl with | [_, _], _ => rfl) (fun vs H Q E h => ?_) (fun f cdv A0 outer ss H vs Q E hr tkB h => ?_)
  · obtain ⟨p, fo, kd, R, b, s, es, z, rfl, _⟩ := h
    rfl
  · obtain ⟨p, fo, kd, R, b, s, es, z, rfl, hR, hz, hzl, hk⟩ := h
    have c0 := Cur.start hR
    obtain ⟨dx, hp⟩ := c0.rf.at_
    obtain ⟨tB, tailB, hB⟩ : ∃ tB, PSs (cxOf (L2N.CX P w) P w K mg base N_Reader_read_start "Reader.read_start" (defScope s_Reader_read_start) f cdv A0 outer ss H E) ((defBody s_Reader_read_start).drop 1) tB ∧
        (¬ (z = "" ∧ kd = REQS) → tB { nx := fun _ H' => Q .non H', rt := Q } [some (.ref p), some (.str z)] H) := by
      refine ⟨_, ((pss_cons (ps_fld (pv 0) (pe_ifExp (pt_cmpR op_eq (pe_fld (pv 0) rfl) (C8.pe_gc rfl T.c_REQUESTS) (nomark _)) (pe_fn (h_read_request T) (hr.mono (by decide)) (fun σ => L2N.passAt tkB σ) (pa_cons (pv 1) pa_nil)) (pe_fn (h_read_status T) (hr.mono (by decide)) (fun σ => L2N.passAt tkB σ) (pa_cons (pv 1) pa_nil))) rfl)
      (pss_cons (ps_fld (pv 0) (pe_lst pa_nil) rfl)
      (pss_one (ps_fld (pv 0) (C8.pe_gc rfl T.c_HEAD) rfl))))), fun hn => ?_⟩
      have eo : startO kd s z = (match mStart kd z with
        | .error k => .error (s, k)
        | .ok st => .ok ({ s with start := st, fields := [], now := "head" }, [])) := if_neg hn
      -- behind the reading of the line
      have fin : ∀ (t : Addr) (H1 : Hp) (st : Stt), mStart kd z = .ok st → Ex H H1 → H1 t = some (.tup st.vs) → ∀ dx1, H1 p = some (.ins A.RD dx1 (rfs kd R s)) → ∀ l, (upd H1 p (.ins A.RD dx1 (rfs kd { R with st := t } s))) l = none →
          ∃ dx2, (upd (upd H1 p (.ins A.RD dx1 (rfs kd { R with st := t } s))) l (.lst [])) p = some (.ins A.RD dx2 (rfs kd { R with st := t } s)) ∧
            ∀ dx3, (upd (upd (upd H1 p (.ins A.RD dx1 (rfs kd { R with st := t } s))) l (.lst [])) p (.ins A.RD dx2 (rfs kd { R with st := t, fl := l } s))) p = some (.ins A.RD dx3 (rfs kd { R with st := t, fl := l } s)) →
              Q .non (upd (upd (upd (upd H1 p (.ins A.RD dx1 (rfs kd { R with st := t } s))) l (.lst [])) p (.ins A.RD dx2 (rfs kd { R with st := t, fl := l } s))) p (.ins A.RD dx3 (rfs kd { R with st := t, fl := l } { s with now := "head" }))) := by
        intro t H1 st hst e1 ht dx1 hp1 l hl
        have c1 := c0.ex e1
        have c2 := c1.st (t := t) (dx := dx1) ht
        have pl : p ≠ l := ne_of_none upd_same hl
        refine ⟨dx1, (upd_ne pl).trans upd_same, fun dx3 h3 => ?_⟩
        have c3 := c2.fields (dx := dx1) hl
        have c4 := c3.sc (s2 := { s with start := st, fields := [], now := "head" }) (dx := dx3)
        exact c4.out (hk.1 _ (by rw [eo, hst])) rfl
      refine ⟨_, rfl, p, A.RD, dx, _, _, rfl, hp, T.cl_Reader, T.n_Reader_kind, rfs_kind _ _ _, rfl, _, rfl, ?_⟩
      rw [dec_vs]
      refine ite2 (fun h1 => ?_) (fun h1 => ?_)
      · have h1' := of_decide_eq_true h1
        have es' : mStart kd z = (match mReq z with | .ok (a, c, v) => .ok (.req a c v) | .error k => .error k) := if_pos h1'
        refine ⟨_, rfl, z, rfl, hz, hzl, fun a c v t H1 hm ht e1 hx => ?_, fun k hm => ?_⟩
        · obtain ⟨dx1, hp1⟩ := (c0.ex e1).rf.at_
          refine ⟨_, rfl, p, A.RD, dx1, _, rfl, hp1, T.cl_Reader, T.n_Reader_start, (by show 15 < 1000; decide), ?_⟩
          rw [put_start]
          refine ⟨Nat.zero_le _, fun l hl => ?_⟩
          obtain ⟨dx2, hp2, h3⟩ := fin t H1 (.req a c v) (by rw [es', hm]) e1 hx dx1 hp1 l hl
          refine ⟨_, rfl, p, A.RD, dx2, _, rfl, hp2, T.cl_Reader, T.n_Reader_fields, (by show 15 < 1000; decide), ?_⟩
          rw [put_fields]
          refine ⟨_, rfl, p, A.RD, dx2, _, rfl, upd_same, T.cl_Reader, T.n_Reader_now, (by show 15 < 1000; decide), ?_⟩
          rw [put_now]
          exact h3 dx2 upd_same
        · exact hk.errL (by rw [eo, es', hm]) (mReq_len hm) c0 (fun d hd => hd)
      · have h1' : ¬ kd = REQS := fun q => h1 (decide_eq_true q)
        have es' : mStart kd z = (match mSta z with | .ok (a, c, v) => .ok (.sta a c v) | .error k => .error k) := if_neg h1'
        refine ⟨_, rfl, z, rfl, hz, hzl, fun a c v t H1 hm ht e1 hx => ?_, fun k hm => ?_⟩
        · obtain ⟨dx1, hp1⟩ := (c0.ex e1).rf.at_
          refine ⟨_, rfl, p, A.RD, dx1, _, rfl, hp1, T.cl_Reader, T.n_Reader_start, (by show 15 < 1000; decide), ?_⟩
          rw [put_start]
          refine ⟨Nat.zero_le _, fun l hl => ?_⟩
          obtain ⟨dx2, hp2, h3⟩ := fin t H1 (.sta a c v) (by rw [es', hm]) e1 hx dx1 hp1 l hl
          refine ⟨_, rfl, p, A.RD, dx2, _, rfl, hp2, T.cl_Reader, T.n_Reader_fields, (by show 15 < 1000; decide), ?_⟩
          rw [put_fields]
          refine ⟨_, rfl, p, A.RD, dx2, _, rfl, upd_same, T.cl_Reader, T.n_Reader_now, (by show 15 < 1000; decide), ?_⟩
          rw [put_now]
          exact h3 dx2 upd_same
        · exact hk.errL (by rw [eo, es', hm]) (mSta_len hm) c0 (fun d hd => hd)
    refine ⟨_, ((pss_cons (ps_if (PW.pt (pw_and (pt_cmpR op_eq (pv 1) pe_str (nomark _)) (pw_and1 (pt_cmpR op_eq (pe_fld (pv 0) rfl) (C8.pe_gc rfl T.c_REQUESTS) (nomark _))))) (pss_one ps_retN) pss_nil)
      tailB)), ?_⟩
    refine ⟨_, rfl, rfl, _, rfl, ?_⟩
    rw [dec_vs]
    refine ite2 (fun h1 => ?_) (fun h1 => ?_)
    · refine ⟨_, rfl, p, A.RD, dx, _, _, rfl, hp, T.cl_Reader, T.n_Reader_kind, rfs_kind _ _ _, rfl, _, rfl, ?_⟩
      rw [dec_vs]
      refine ite2 (fun h2 => ?_) (fun h2 => ?_)
      · exact c0.out (hk.1 _ (if_pos ⟨of_decide_eq_true h1, of_decide_eq_true h2⟩)) rfl
      · exact hB (fun q => h2 (decide_eq_true q.2))
    · exact hB (fun q => h1 (decide_eq_true q.1))
def fieldO (b : Bk) (s : RS) (z : Str) : OutX :=
  match mField z with
  | none => .error (s, "field")
  | some f => if (s.fields.length : Int) = b.fields then .ok (failM "many" s) else .ok ({ s with fields := s.fields ++ [f] }, [])
def sp_Reader_read_field_line : Sp := fun vs H Q E => ∃ (p fo : Addr) (kd : Str) (R : RA) (b : Bk) (s : RS) (es : List Evt) (z : Str), vs = [.ref p, .str z, .ref fo] ∧ RF A H p fo kd R b s es ∧ okS z ∧ z.length ≤ 300 ∧ es.length ≤ 10 ∧ s.fields.length ≤ 20 ∧ MX A p fo kd b R es (fieldO b s z) H Q E
abbrev N_Reader_read_field_line : List Str := ["self", "text", "found", "field"]
theorem sc_Reader_read_field_line : FnScope N_Reader_read_field_line ["self", "text", "found"] (defScope s_Reader_read_field_line) := ⟨rfl, rfl, rfl, by decide +kernel, rfl, by decide +kernel, by decide +kernel⟩
theorem h_Reader_read_field_line (T : Txt K w mg A) : HasM (L2N.CX P w) P w K mg base A.RD "read_field_line" 5 ["self", "text", "found"] (sp_Reader_read_field_line (A := A)) := by
  refine hasMX (k := 4) T.d_Reader_read_field_line sc_Reader_read_field_line (fun _ _ _ _ _ _ us hl => match us, hl with | [_, _, _], _ => rfl) (fun vs H Q E h => ?_) (fun f cdv A0 outer ss H vs Q E hr tkB h => ?_)
  · obtain ⟨p, fo, kd, R, b, s, es, z, rfl, _⟩ := h
    rfl
  · obtain ⟨p, fo, kd, R, b, s, es, z, rfl, hR, hz, hzl, hl, hfl, hk⟩ := h
    have c0 := Cur.start hR
    refine ⟨_, ((pss_cons (ps_set (i := 3) sc_Reader_read_field_line.nd rfl (.inl rfl) (pe_fn (h_read_field T) (hr.mono (by decide)) (fun σ => L2N.passAt tkB σ) (pa_cons (pv 1) pa_nil)))
      (pss_cons (ps_if (pt_cmpR op_eq (pe_callB call_len_seq (by rfl) T.b_len PySem.boot_len (pa_cons (pe_fld (pv 0) rfl) pa_nil)) (pe_fld (pe_fld (pv 0) rfl) rfl) (nomark _)) (pss_cons (ps_expr (pe_mt (pv 0) T.cl_Reader (h_Reader_fail T) (hr.mono (by decide)) paN (pa_cons pe_str (pa_cons (pv 2) pa_nil))))
      (pss_one ps_retN)) pss_nil)
      (pss_one (ps_expr (pe_bm PySem.F.plainAttrs_list PySem.F.slot_list_append PySem.F.type_list_append mt_append (pe_fld (pv 0) rfl) (pa_cons (pv 3) pa_nil))))))), ?_⟩
    refine ⟨_, rfl, z, rfl, hz, hzl, fun fd t H1 hm ht e1 hx => ?_, fun hm => ?_⟩
    · have c1 := c0.ex e1
      obtain ⟨dx1, hp1⟩ := c1.rf.at_
      obtain ⟨fx, hfx, pfx⟩ := c1.rf.co.fl
      obtain ⟨bdx, hbk⟩ := c1.rf.co.bk
      have lf := pfx.length
      refine ⟨_, rfl, p, A.RD, dx1, _, _, rfl, hp1, T.cl_Reader, T.n_Reader_fields, rfs_fields _ _ _, R.fl, fx, rfl, Or.inl (SqL.of hfx), _, rfl, p, A.RD, dx1, _, _, rfl, hp1, T.cl_Reader, T.n_Reader_book, rfs_book _ _ _, R.bk, A.BK, bdx, _, _, rfl, hbk, T.cl_Book, T.n_Book_most_fields, bfs_most_fields b, rfl, _, rfl, ?_⟩
      rw [dec_vi, lf]
      have eo : fieldO b s z = (if (s.fields.length : Int) = b.fields then .ok (failM "many" s) else .ok ({ s with fields := s.fields ++ [fd] }, [])) := by
        unfold fieldO
        rw [hm]
      refine ite2 (fun h1 => ?_) (fun h1 => ?_)
      · have h1' := of_decide_eq_true h1
        rw [if_pos h1'] at eo
        refine ⟨_, rfl, p, dx1, _, rfl, hp1, rfs_no_fail _ _ _, _, rfl, p, fo, kd, R, b, s, es, "many", rfl, c1.rf, hl, fun H' hh => hk.1 _ eo H' (c1.tr hh)⟩
      · have h1' : ¬ (s.fields.length : Int) = b.fields := fun q => h1 (decide_eq_true q)
        rw [if_neg h1'] at eo
        refine ⟨_, rfl, p, A.RD, dx1, _, _, rfl, hp1, T.cl_Reader, T.n_Reader_fields, rfs_fields _ _ _, Or.inl ⟨rfl, _, SqL.of hfx⟩, _, rfl, R.fl, fx, _, rfl, rfl, hfx, Nat.lt_of_le_of_lt (by omega : fx.length ≤ 20) (by decide), ?_⟩
        exact (c1.field hfx pfx ⟨t, rfl, hx⟩).out (hk.1 _ eo) rfl
    · exact hk.errL (by unfold fieldO; rw [hm]) (by decide +kernel) c0 (fun d hd => hd)
end
end K32

namespace K32
open PySem PySem.Spec PyProof.Rows L2
section
variable {P : Program} {w : World} {K : PySem.W.Frag} {mg : Str → Option Value} {base : Heap} {A : Adr}
/-! ### Reader.end_head -/
def StOk (kd : Str) : Stt → Prop
  | .no => False
  | .req _ _ _ => kd = REQS
  | .sta _ _ _ => kd = RESPS
theorem kinds_ne : ¬ (RESPS = REQS) := by decide +kernel
theorem respFr_len {s v : Int} {fs : List Fld} {b : Bk} {m k : Str} {up : Bool} (h : respFr s v fs b m up = .error k) : k.length ≤ 100 := by
  unfold respFr at h
  split at h
  · split at h
    · cases h
      decide +kernel
    · split at h
      · cases h
      · split at h
        · cases h
        · split at h <;> cases h
  · cases h
    exact frameErr_len v fs b
theorem reqFr_len {v : Int} {fs : List Fld} {b : Bk} {k : Str} (h : reqFr v fs b = .error k) : k.length ≤ 100 := by
  unfold reqFr at h
  split at h
  · cases h
  · cases h
    exact frameErr_len v fs b
theorem put_skip2 (kd : Str) (R : RA) (s : RS) : putF ("skips_wait" : Str) (.bl false) (rfs kd R s) = rfs kd R s := put_skips_wait kd R s
def sp_Reader_end_head : Sp := fun vs H Q E => ∃ (p fo : Addr) (kd : Str) (R : RA) (b : Bk) (s : RS) (es : List Evt) (f : Addr) (fs : List Fld), vs = [.ref p, .ref f, .ref fo] ∧ RF A H p fo kd R b s es ∧ FT H f fs ∧ OkFs fs ∧ BkOk b ∧ es.length ≤ 8 ∧ StOk kd s.start ∧ (kd = RESPS → s.asks ≠ []) ∧ MX A p fo kd b R es (endHead kd b s fs) H Q E
abbrev N_Reader_end_head : List Str := ["self", "fields", "found", "first", "second", "version", "frame", "asked"]
theorem sc_Reader_end_head : FnScope N_Reader_end_head ["self", "fields", "found"] (defScope s_Reader_end_head) := ⟨rfl, rfl, rfl, by decide +kernel, rfl, by decide +kernel, by decide +kernel⟩
theorem h_Reader_end_head (T : Txt K w mg A) : HasM (L2N.CX P w) P w K mg base A.RD "end_head" 6 ["self", "fields", "found"] (sp_Reader_end_head (A := A)) := by
  refine hasMX (k := 5) T.d_Reader_end_head sc_Reader_end_head (fun _ _ _ _ _ _ us hl => match us, hl with | [_, _, _], _ => rfl) (fun vs H Q E h => ?_) (fun ff cdv A0 outer ss H vs Q E hr tkB h => ?_)
  · obtain ⟨p, fo, kd, R, b, s, es, f, fs, rfl, _⟩ := h
    rfl
  · obtain ⟨p, fo, kd, R, b, s, es, f, fs, rfl, hR, hf, hok, bok, hl, hst, ha, hk⟩ := h
    have c0 := Cur.start hR
    obtain ⟨dx, hp⟩ := c0.rf.at_
    obtain ⟨bdx, hbk⟩ := c0.rf.co.bk
    -- the call of begin_body, at the end
    have lastly : ∀ (Hn : Hp) (Rn : RA) (sn : RS) (t : Addr) (fr : Fr) (e1 : Evt) (r : Out) (dn : Addr), Cur A p fo kd b R H Hn Rn sn (es ++ [e1]) → Hn t = some (.tup fr.v) → sn.asks = s.asks → endHead kd b s fs = .ok ((beginBody kd sn fr).1, e1 :: (beginBody kd sn fr).2) →
        sp_Reader_begin_body (A := A) [.ref p, .ref t, .ref fo] Hn (fun _ H' => Q .non H') (fun _ _ _ => False) := by
      intro Hn Rn sn t fr e1 r dn c ht has he
      refine ⟨p, fo, kd, Rn, b, sn, es ++ [e1], t, fr, rfl, c.rf, ht, by rw [List.length_append]; show _ + 1 ≤ 9; omega, fun z => by rw [has]; exact ha z, fun H' h => ?_⟩
      refine hk.1 _ he H' ?_
      have := c.tr h
      rw [List.append_assoc] at this
      exact this
    refine ⟨_, ((pss_cons (ps_asg (pe_fld (pv 0) rfl) (pg_tup (by rfl) (pgs_cons (pg_name (i := 3) sc_Reader_end_head.nd rfl (.inl rfl)) (pgs_cons (pg_name (i := 4) sc_Reader_end_head.nd rfl (.inl rfl)) (pgs_cons (pg_name (i := 5) sc_Reader_end_head.nd rfl (.inl rfl)) pgs_nil)))))
      (pss_cons (ps_fld (pv 0) (pe_not (pe_fnK (h_persists T) (hr.mono (by decide)) paN (pa_cons (pv 5) (pa_cons (pv 1) pa_nil)) (pk_cons (pe_fld (pv 0) rfl) pk_nil))) rfl)
      (pss_cons (ps_fld (pv 0) pe_bl rfl)
      (pss_cons (ps_if (pt_cmpR op_eq (pe_fld (pv 0) rfl) (C8.pe_gc rfl T.c_REQUESTS) (nomark _)) (pss_cons (ps_set (i := 6) sc_Reader_end_head.nd rfl (.inl rfl) (pe_fnK (h_request_frame T) (hr.mono (by decide)) (fun σ => L2N.passAt tkB σ) (pa_cons (pv 5) (pa_cons (pv 1) pa_nil)) (pk_cons (pe_fld (pv 0) rfl) pk_nil)))
      (pss_cons (ps_fld (pv 0) (pe_mkI (hi_Message T) (hr.mono (by decide)) (pa_cons (pv 3) (pa_cons (pe_fn (h_asks_upgrade T) (hr.mono (by decide)) paN (pa_cons (pv 5) (pa_cons (pv 1) pa_nil))) (pa_cons (pe_fld (pv 0) rfl) pa_nil)))) rfl)
      (pss_one (ps_expr (pe_bm PySem.F.plainAttrs_list PySem.F.slot_list_append PySem.F.type_list_append mt_append (pv 2) (pa_cons (pe_tup (pa_cons (C8.pe_gc rfl T.c_REQUEST) (pa_cons (pv 3) (pa_cons (pv 4) (pa_cons (pv 5) (pa_cons (pv 1) pa_nil)))))) pa_nil)))))) (pss_cons (ps_set (i := 7) sc_Reader_end_head.nd rfl (.inl rfl) (pe_ix ix_list (pe_fld (pv 0) rfl) pe_int (fun _ _ => rfl)))
      (pss_cons (ps_set (i := 6) sc_Reader_end_head.nd rfl (.inl rfl) (pe_fnK (h_response_frame T) (hr.mono (by decide)) (fun σ => L2N.passAt tkB σ) (pa_cons (pv 3) (pa_cons (pv 5) (pa_cons (pv 1) pa_nil))) (pk_cons (pe_fld (pv 7) rfl) (pk_cons (pe_fld (pv 7) rfl) (pk_cons (pe_fld (pv 0) rfl) pk_nil)))))
      (pss_one (ps_expr (pe_bm PySem.F.plainAttrs_list PySem.F.slot_list_append PySem.F.type_list_append mt_append (pv 2) (pa_cons (pe_tup (pa_cons (pe_ifExp (pt_cmpR (op_eqD hr.units) (pv 6) (pe_tup (pa_cons pe_str pa_nil)) (nomark _)) (C8.pe_gc rfl T.c_INFO_events) (C8.pe_gc rfl T.c_RESPONSE)) (pa_cons (pv 3) (pa_cons (pv 4) (pa_cons (pv 5) (pa_cons (pv 1) pa_nil)))))) pa_nil)))))))
      (pss_one (ps_expr (pe_mt (pv 0) T.cl_Reader (h_Reader_begin_body T) (hr.mono (by decide)) paN (pa_cons (pv 6) (pa_cons (pv 2) pa_nil)))))))))), ?_⟩
    obtain ⟨first, second, ver, hvs, hver⟩ : ∃ (first second : V) (ver : Int), s.start.vs = [first, second, .int ver] ∧ s.start.ver = ver := by
      cases hs : s.start with
      | no => rw [hs] at hst; exact hst.elim
      | req a c v => exact ⟨_, _, v, rfl, rfl⟩
      | sta a c v => exact ⟨_, _, v, rfl, rfl⟩
    have hsv := c0.rf.co.st
    rw [hvs] at hsv
    refine ⟨_, rfl, p, A.RD, dx, _, _, rfl, hp, T.cl_Reader, T.n_Reader_start, rfs_start _ _ _, R.st, _, rfl, SqT.of hsv, rfl, _, _, rfl, _, _, rfl, _, _, rfl, rfl, ?_⟩
    refine ⟨_, rfl, _, rfl, _, rfl, p, A.RD, dx, _, _, rfl, hp, T.cl_Reader, T.n_Reader_book, rfs_book _ _ _, rfl, rfl, ver, f, R.bk, fs, b, rfl, hf, hok, ⟨bdx, hbk⟩, fun H1 e1 => ?_⟩
    have c1 := c0.ex e1
    obtain ⟨dx1, hp1⟩ := c1.rf.at_
    refine ⟨_, rfl, _, rfl, p, A.RD, dx1, _, rfl, hp1, T.cl_Reader, T.n_Reader_is_last, (by show 15 < 1000; decide), ?_⟩
    rw [put_is_last]
    have c2 := c1.sc (s2 := { s with last := !persB ver fs b }) (dx := dx1)
    obtain ⟨dx2, hp2⟩ := c2.rf.at_
    refine ⟨_, rfl, p, A.RD, dx2, _, rfl, hp2, T.cl_Reader, T.n_Reader_skips_wait, (by show 15 < 1000; decide), ?_⟩
    rw [put_skip2]
    obtain ⟨H3, hH3, c3, fr3, f3⟩ : ∃ H3, upd _ p (.ins A.RD dx2 (rfs kd R { s with last := !persB ver fs b })) = H3 ∧ Cur A p fo kd b R H H3 R { s with last := !persB ver fs b } es ∧ (∀ d, H3 d = none → H d = none) ∧ FT H3 f fs := by
      refine ⟨_, rfl, c2.sc (s2 := { s with last := !persB ver fs b }) (dx := dx2), fun d hd => e1.free (upd_free hp1 (upd_free hp2 hd)), ?_⟩
      exact ((hf.mono (Tk.of e1)).mono (Tk.upd hp1 (fun _ z => by cases z))).mono (Tk.upd hp2 (fun _ z => by cases z))
    rw [hH3]
    obtain ⟨dx3, hp3⟩ := c3.rf.at_
    obtain ⟨bdx3, hbk3⟩ := c3.rf.co.bk
    refine ⟨_, rfl, p, A.RD, dx3, _, _, rfl, hp3, T.cl_Reader, T.n_Reader_kind, rfs_kind _ _ _, rfl, _, rfl, ?_⟩
    rw [dec_vs]
    refine ite2 (fun h1 => ?_) (fun h1 => ?_)
    · have h1' : kd = REQS := of_decide_eq_true h1
      obtain ⟨ma, mc, mv, hs⟩ : ∃ a c v, s.start = .req a c v := by
        cases hs : s.start with
        | no => rw [hs] at hst; exact hst.elim
        | req a c v => exact ⟨a, c, v, rfl⟩
        | sta a c v => rw [hs] at hst; exact absurd (hst.symm.trans h1') kinds_ne
      have hv3 : [V.str ma, V.str mc, V.int mv] = [first, second, .int ver] := by rw [← hvs, hs]; rfl
      injection hv3 with i1 i2
      injection i2 with i2 i3
      injection i3 with i3 _
      subst i1 i2
      have hvm : s.start.meth = ma := by rw [hs]; rfl
      have hfr : headFr kd b s.start fs (s.asks.headD ⟨"", false, false⟩) = reqFr ver fs b := by
        unfold headFr
        rw [if_pos h1', hver]
      refine ⟨_, rfl, _, rfl, _, rfl, p, A.RD, dx3, _, _, rfl, hp3, T.cl_Reader, T.n_Reader_book, rfs_book _ _ _, rfl, rfl, ver, f, R.bk, fs, b, rfl, f3, hok, ⟨bdx3, hbk3⟩, bok, fun fr t H4 hfe ht e4 hx => ?_, fun k hke => ?_⟩
      · have c4 := c3.ex e4
        obtain ⟨dx4, hp4⟩ := c4.rf.at_
        refine ⟨_, rfl, _, rfl, _, rfl, ver, f, fs, rfl, f3.mono (Tk.of e4), hok, fun H5 e5 => ?_⟩
        have c5 := c4.ex e5
        obtain ⟨dx5, hp5⟩ := c5.rf.at_
        refine ⟨_, rfl, p, A.RD, dx5, _, _, rfl, hp5, T.cl_Reader, T.n_Reader_is_last, rfs_is_last _ _ _, fun x xd hx5 hxd hne => ⟨x, ⟨ma, upB ver fs, !persB ver fs b⟩, xd, rfl, upd_same, fun H6 g1 g2 => ⟨rfl, ?_⟩⟩⟩
        have e6 : Ex H5 H6 := mk_ex hx5 hxd g2
        have c6 := c5.ex e6
        obtain ⟨dx6, hp6⟩ := c6.rf.at_
        refine ⟨_, rfl, p, A.RD, dx6, _, rfl, hp6, T.cl_Reader, T.n_Reader_message, (by show 15 < 1000; decide), ?_⟩
        rw [put_message]
        have c7 := c6.msg (t := x) (m := ⟨ma, upB ver fs, !persB ver fs b⟩) (dx := dx6) ⟨x, xd, rfl, g1⟩
        obtain ⟨xs7, he7, pe7⟩ := c7.rf.ev
        have lx7 := pe7.length
        refine ⟨_, rfl, Or.inl ⟨rfl, _, SqL.of he7⟩, _, rfl, _, rfl, _, rfl, _, rfl, by show 5 ≤ sizeLine; decide, fun q hq => ?_⟩
        have e8 := Ex.new (o := .tup [.str "request", .str ma, .str mc, .int ver, .ref f]) hq
        have c8 := c7.ex e8
        refine ⟨fo, xs7, .ref q, rfl, rfl, e8 _ _ he7, Nat.lt_of_le_of_lt (by omega : xs7.length ≤ 10) (by decide), ?_⟩
        have f8 : FT _ f fs := (((f3.mono (Tk.of e4)).mono (Tk.of e5)).mono (Tk.of e6)).mono ((Tk.upd hp6 (fun _ z => by cases z)).tr (Tk.of e8))
        have c9 := c8.push (e8 _ _ he7) (x := .ref q) (e := .head "request" s.start fs) ⟨q, _, rfl, upd_same, f, by rw [hs]; simp [Stt.vs]; exact (V.int.inj i3).symm, f8⟩ (evs_mono (Tk.of e8) pe7)
        obtain ⟨dx9, hp9⟩ := c9.rf.at_
        refine ⟨_, rfl, p, dx9, _, rfl, hp9, rfs_no_begin_body _ _ _, _, rfl, _, rfl, lastly _ _ _ t fr _ (s, []) dx9 c9 (((Tk.of (e5.tr e6)).tr ((Tk.upd hp6 (fun _ z => by cases z)).tr ((Tk.of e8).tr (Tk.upd (e8 _ _ he7) (fun _ z => by cases z))))) t fr.v hx) rfl ?_⟩
        unfold endHead
        rw [hfr, hfe, hver, hvm]
        exact if_pos h1'
      · refine hk.errF (s1 := { s with last := !persB ver fs b }) ?_ (reqFr_len hke) c3 fr3
        unfold endHead
        rw [hfr, hke, hver]
    · have h1' : ¬ kd = REQS := fun z => h1 (decide_eq_true z)
      obtain ⟨sc, sr, sv, hs⟩ : ∃ a c v, s.start = .sta a c v := by
        cases hs : s.start with
        | no => rw [hs] at hst; exact hst.elim
        | req a c v => rw [hs] at hst; exact absurd hst h1'
        | sta a c v => exact ⟨a, c, v, rfl⟩
      have hkr : kd = RESPS := by rw [hs] at hst; exact hst
      have hv3 : [V.int sc, V.str sr, V.int sv] = [first, second, .int ver] := by rw [← hvs, hs]; rfl
      injection hv3 with i1 i2
      injection i2 with i2 i3
      injection i3 with i3 _
      subst i1 i2
      have hvc : s.start.code = sc := by rw [hs]; rfl
      obtain ⟨ms, hms, pms⟩ := c3.rf.co.ex
      have pms1 : Paired (MsgAt A H3) ms s.asks := pms
      obtain ⟨a0, ar, qa⟩ : ∃ a0 ar, s.asks = a0 :: ar := by
        cases qa : s.asks with
        | nil => exact absurd qa (ha hkr)
        | cons a0 ar => exact ⟨a0, ar, rfl⟩
      have hfr : headFr kd b s.start fs (s.asks.headD ⟨"", false, false⟩) = respFr sc ver fs b a0.method a0.up := by
        unfold headFr
        rw [if_neg h1', hver, hvc, qa]
        rfl
      rw [qa] at pms1
      cases pms1 with
      | @cons x0 _ xr _ r0 rr =>
        obtain ⟨ma, mdx, rfl, hm⟩ := r0
        refine ⟨_, rfl, p, A.RD, dx3, _, _, rfl, hp3, T.cl_Reader, T.n_Reader_expected, rfs_expected _ _ _, R.ex, _, 0, _, rfl, rfl, SqL.of hms, at0 _ _, ?_⟩
        refine ⟨_, rfl, _, rfl, _, rfl, _, rfl, ma, A.MS, mdx, _, _, rfl, hm, T.cl_Message, T.n_Message_method, mfs_method a0, _, rfl, ma, A.MS, mdx, _, _, rfl, hm, T.cl_Message, T.n_Message_upgrade, mfs_upgrade a0, _, rfl, p, A.RD, dx3, _, _, rfl, hp3, T.cl_Reader, T.n_Reader_book, rfs_book _ _ _, rfl, rfl,
          sc, ver, f, R.bk, fs, b, a0.method, a0.up, rfl, f3, hok, ⟨bdx3, hbk3⟩, bok, fun fr t H4 hfe ht e4 hx => ?_, fun k hke => ?_⟩
        · have c4 := c3.ex e4
          obtain ⟨dx4, hp4⟩ := c4.rf.at_
          obtain ⟨xs4, he4, pe4⟩ := c4.rf.ev
          have lx4 := pe4.length
          refine ⟨_, rfl, Or.inl ⟨rfl, _, SqL.of he4⟩, _, rfl, by show 1 ≤ sizeLine; decide, fun q1 hq1 => ?_⟩
          have e5 : Ex H4 (upd H4 q1 (.tup [.str "info"])) := Ex.new hq1
          have c5 := c4.ex e5
          have he5 := e5 _ _ he4
          refine ⟨frD fr, .tuple [.str "info"], frD_dp (e5 _ _ hx), one_dp upd_same, frD_sh fr, by decide +kernel, _, rfl, ?_⟩
          rw [eq_info]
          refine ite2 (fun g1 => ?_) (fun g1 => ?_)
          · have g1' : fr = .info := of_decide_eq_true g1
            refine ⟨_, rfl, _, rfl, _, rfl, _, rfl, by show 5 ≤ sizeLine; decide, fun q hq => ?_⟩
            have e8 := Ex.new (o := .tup [.str "info", .int sc, .str sr, .int ver, .ref f]) hq
            have c8 := c5.ex e8
            refine ⟨fo, xs4, .ref q, rfl, rfl, e8 _ _ he5, Nat.lt_of_le_of_lt (by omega : xs4.length ≤ 10) (by decide), ?_⟩
            have f8 : FT _ f fs := ((f3.mono (Tk.of e4)).mono (Tk.of e5)).mono (Tk.of e8)
            have c9 := c8.push (e8 _ _ he5) (x := .ref q) (e := .head "info" s.start fs) ⟨q, _, rfl, upd_same, f, by rw [hs]; simp [Stt.vs]; exact (V.int.inj i3).symm, f8⟩ (evs_mono ((Tk.of e5).tr (Tk.of e8)) pe4)
            obtain ⟨dx9, hp9⟩ := c9.rf.at_
            refine ⟨_, rfl, p, dx9, _, rfl, hp9, rfs_no_begin_body _ _ _, _, rfl, _, rfl, lastly _ _ _ t fr _ (s, []) dx9 c9 (((Tk.of e5).tr ((Tk.of e8).tr (Tk.upd (e8 _ _ he5) (fun _ z => by cases z)))) t fr.v hx) rfl ?_⟩
            unfold endHead
            rw [hfr, hfe, hver]
            refine (if_neg h1').trans ?_
            rw [if_pos g1']
          · have g1' : ¬ fr = .info := fun z => g1 (decide_eq_true z)
            refine ⟨_, rfl, _, rfl, _, rfl, _, rfl, by show 5 ≤ sizeLine; decide, fun q hq => ?_⟩
            have e8 := Ex.new (o := .tup [.str "response", .int sc, .str sr, .int ver, .ref f]) hq
            have c8 := c5.ex e8
            refine ⟨fo, xs4, .ref q, rfl, rfl, e8 _ _ he5, Nat.lt_of_le_of_lt (by omega : xs4.length ≤ 10) (by decide), ?_⟩
            have f8 : FT _ f fs := ((f3.mono (Tk.of e4)).mono (Tk.of e5)).mono (Tk.of e8)
            have c9 := c8.push (e8 _ _ he5) (x := .ref q) (e := .head "response" s.start fs) ⟨q, _, rfl, upd_same, f, by rw [hs]; simp [Stt.vs]; exact (V.int.inj i3).symm, f8⟩ (evs_mono ((Tk.of e5).tr (Tk.of e8)) pe4)
            obtain ⟨dx9, hp9⟩ := c9.rf.at_
            refine ⟨_, rfl, p, dx9, _, rfl, hp9, rfs_no_begin_body _ _ _, _, rfl, _, rfl, lastly _ _ _ t fr _ (s, []) dx9 c9 (((Tk.of e5).tr ((Tk.of e8).tr (Tk.upd (e8 _ _ he5) (fun _ z => by cases z)))) t fr.v hx) rfl ?_⟩
            unfold endHead
            rw [hfr, hfe, hver]
            refine (if_neg h1').trans ?_
            rw [if_neg g1']
        · refine hk.errF (s1 := { s with last := !persB ver fs b }) ?_ (respFr_len hke) c3 fr3
          unfold endHead
          rw [hfr, hke, hver]
end
end K32

namespace K32
open PySem PySem.Spec PyProof.Rows L2
section
variable {P : Program} {w : World} {K : PySem.W.Frag} {mg : Str → Option Value} {base : Heap} {A : Adr}
/-! ### Reader.read_line -/
theorem takesN {X : Cx} : L2N.Takes X (fun _ _ _ _ => False) := fun _ _ h => by
  obtain ⟨_, _, _, _, _, _, _, _, _, _, _, _, _, _, _, _, z⟩ := h
  exact z.elim
theorem xf_BadLine (T : Txt K w mg A) : XfC K A.BL ∧ PySem.W.findIn K (.ref A.BL) "kind" = some none := by
  obtain ⟨f, fd, X, F⟩ := T.d_BadLine_init.ex
  exact ⟨X.xf, X.nk⟩
theorem xf_BadFrame (T : Txt K w mg A) : XfC K A.BF ∧ PySem.W.findIn K (.ref A.BF) "kind" = some none := by
  obtain ⟨f, fd, X, F⟩ := T.d_BadFrame_init.ex
  exact ⟨X.xf, X.nk⟩
/-- what a line asks of the state -/
structure LineOk (kd : Str) (b : Bk) (s : RS) : Prop where
  bk : BkOk b
  fs : OkFs s.fields
  ask : kd = RESPS → s.asks ≠ []
  st : s.part ≠ "size" → s.now ≠ "start" → s.part ≠ "trailers" → StOk kd s.start
theorem MX.of {p fo : Addr} {kd : Str} {b : Bk} {R : RA} {es : List Evt} {o o' : OutX} {H : Hp} {Q : VK} {E : XK} (h : MX A p fo kd b R es o H Q E) (e : o = o') : MX A p fo kd b R es o' H Q E := e ▸ h
def sp_Reader_read_line : Sp := fun vs H Q E => ∃ (p fo : Addr) (kd : Str) (R : RA) (b : Bk) (s : RS) (es : List Evt) (z : Str), vs = [.ref p, .str z, .ref fo] ∧ RF A H p fo kd R b s es ∧ okS z ∧ z.length ≤ 300 ∧ es.length ≤ 8 ∧ LineOk kd b s ∧ MX A p fo kd b R es (readLine kd b s z) H Q E
abbrev N_Reader_read_line : List Str := ["self", "text", "found"]
theorem sc_Reader_read_line : FnScope N_Reader_read_line ["self", "text", "found"] (defScope s_Reader_read_line) := ⟨rfl, rfl, rfl, by decide +kernel, rfl, by decide +kernel, by decide +kernel⟩
theorem h_Reader_read_line (T : Txt K w mg A) : HasM (L2N.CX P w) P w K mg base A.RD "read_line" 8 ["self", "text", "found"] (sp_Reader_read_line (A := A)) := by
  refine hasMX (k := 7) T.d_Reader_read_line sc_Reader_read_line (fun _ _ _ _ _ _ us hl => match us, hl with | [_, _, _], _ => rfl) (fun vs H Q E h => ?_) (fun ff cdv A0 outer ss H vs Q E hr tkB h => ?_)
  · obtain ⟨p, fo, kd, R, b, s, es, z, rfl, _⟩ := h
    rfl
  · obtain ⟨p, fo, kd, R, b, s, es, z, rfl, hR, hz, hzl, hl, ok, hk⟩ := h
    have c0 := Cur.start hR
    obtain ⟨dx, hp⟩ := c0.rf.at_
    obtain ⟨fx, hfx, pfx⟩ := c0.rf.co.fl
    refine ⟨_, ((pss_one (ps_if (pt_cmpR op_eq (pe_fld (pv 0) rfl) (C8.pe_gc rfl T.c_SIZE) (nomark _)) (pss_one (ps_expr (pe_mt (pv 0) T.cl_Reader (h_Reader_begin_chunk T) (hr.mono (by decide)) paN (pa_cons (pe_fn (h_read_size T) (hr.mono (by decide)) (fun σ => L2N.passAt tkB σ) (pa_cons (pv 1) pa_nil)) pa_nil)))) (pss_one (ps_if (pt_cmpR op_eq (pe_fld (pv 0) rfl) (C8.pe_gc rfl T.c_START) (nomark _)) (pss_one (ps_expr (pe_mt (pv 0) T.cl_Reader (h_Reader_read_start T) (hr.mono (by decide)) (fun σ => L2N.passAt tkB σ) (pa_cons (pv 1) pa_nil)))) (pss_one (ps_if (pt_cmpR op_ne (pv 1) pe_str (nomark _)) (pss_one (ps_expr (pe_mt (pv 0) T.cl_Reader (h_Reader_read_field_line T) (hr.mono (by decide)) (fun σ => L2N.passAt tkB σ) (pa_cons (pv 1) (pa_cons (pv 2) pa_nil))))) (pss_one (ps_if (pt_cmpR op_eq (pe_fld (pv 0) rfl) (C8.pe_gc rfl T.c_TRAILERS) (nomark _)) (pss_one (ps_expr (pe_mt (pv 0) T.cl_Reader (h_Reader_end_message T) (hr.mono (by decide)) paN (pa_cons (pe_callTy call_tuple_of (by rfl) T.b_tuple (by decide +kernel) (pa_cons (pe_fld (pv 0) rfl) pa_nil)) (pa_cons (pv 2) pa_nil))))) (pss_one (ps_expr (pe_mt (pv 0) T.cl_Reader (h_Reader_end_head T) (hr.mono (by decide)) (fun σ => L2N.passAt tkB σ) (pa_cons (pe_callTy call_tuple_of (by rfl) T.b_tuple (by decide +kernel) (pa_cons (pe_fld (pv 0) rfl) pa_nil)) (pa_cons (pv 2) pa_nil)))))))))))))), ?_⟩
    refine ⟨_, rfl, p, A.RD, dx, _, _, rfl, hp, T.cl_Reader, T.n_Reader_part, rfs_part _ _ _, rfl, _, rfl, ?_⟩
    rw [dec_vs]
    refine ite2 (fun h1 => ?_) (fun h1 => ?_)
    · have h1' := of_decide_eq_true h1
      have eo : readLine kd b s z = (match mSize z with
        | .error k => .error (s, k)
        | .ok n => .ok ({ s with left := n, part := if 0 < n then "chunk" else "trailers", fields := [] }, [])) := if_pos h1'
      refine ⟨_, rfl, p, dx, _, rfl, hp, rfs_no_begin_chunk _ _ _, _, rfl, z, rfl, hz, hzl, fun n H1 hm e1 => ?_, fun k hm => ?_⟩
      · have c1 := c0.ex e1
        refine ⟨p, fo, kd, R, b, s, es, n, rfl, c1.rf, fun H' hh => ?_⟩
        exact hk.1 _ (by rw [eo, hm]) H' (c1.tr hh)
      · refine hk.errL (by rw [eo, hm]) ?_ c0 (fun d hd => hd)
        unfold mSize at hm
        split at hm
        · cases hm
        · cases hm
          decide +kernel
    · have h1' : ¬ s.part = "size" := fun q => h1 (decide_eq_true q)
      refine ⟨_, rfl, p, A.RD, dx, _, _, rfl, hp, T.cl_Reader, T.n_Reader_now, rfs_now _ _ _, rfl, _, rfl, ?_⟩
      rw [dec_vs]
      refine ite2 (fun h2 => ?_) (fun h2 => ?_)
      · have h2' := of_decide_eq_true h2
        have eo : readLine kd b s z = startO kd s z := by
          unfold readLine startO
          rw [if_neg h1', if_pos h2'] <;> rfl
        refine ⟨_, rfl, p, dx, _, rfl, hp, rfs_no_read_start _ _ _, _, rfl, p, fo, kd, R, b, s, es, z, rfl, c0.rf, hz, hzl, hk.of eo⟩
      · have h2' : ¬ s.now = "start" := fun q => h2 (decide_eq_true q)
        refine ⟨_, rfl, rfl, _, rfl, ?_⟩
        rw [dec_vs]
        refine ite2 (fun h3 => ?_) (fun h3 => ?_)
        · have h3' : z ≠ "" := by simpa using h3
          have eo : readLine kd b s z = fieldO b s z := by
            unfold readLine fieldO
            rw [if_neg h1', if_neg h2', if_pos h3'] <;> rfl
          refine ⟨_, rfl, p, dx, _, rfl, hp, rfs_no_read_field_line _ _ _, _, rfl, _, rfl, p, fo, kd, R, b, s, es, z, rfl, c0.rf, hz, hzl, by omega, ok.fs.1, hk.of eo⟩
        · have h3' : ¬ z ≠ "" := fun q => h3 (by simpa using q)
          refine ⟨_, rfl, p, A.RD, dx, _, _, rfl, hp, T.cl_Reader, T.n_Reader_part, rfs_part _ _ _, rfl, _, rfl, ?_⟩
          rw [dec_vs]
          refine ite2 (fun h4 => ?_) (fun h4 => ?_)
          · have h4' := of_decide_eq_true h4
            have eo : readLine kd b s z = .ok (endMsg kd s s.fields) := by
              unfold readLine
              rw [if_neg h1', if_neg h2', if_neg h3', if_pos h4']
            refine ⟨_, rfl, p, dx, _, rfl, hp, rfs_no_end_message _ _ _, _, rfl, p, A.RD, dx, _, _, rfl, hp, T.cl_Reader, T.n_Reader_fields, rfs_fields _ _ _, R.fl, fx, rfl, Or.inl ⟨SqL.of hfx, fun t ht => ?_⟩⟩
            have c1 := c0.ex (Ex.new (o := .tup fx) ht)
            refine ⟨_, rfl, p, fo, kd, R, b, s, es, t, s.fields, rfl, c1.rf, ⟨fx, upd_same, flds_mono (Tk.of (Ex.new ht)) pfx⟩, by omega, ok.ask, fun H' hh => hk.1 _ eo H' (c1.tr hh)⟩
          · have h4' : ¬ s.part = "trailers" := fun q => h4 (decide_eq_true q)
            have eo : readLine kd b s z = endHead kd b s s.fields := by
              unfold readLine
              rw [if_neg h1', if_neg h2', if_neg h3', if_neg h4']
            refine ⟨_, rfl, p, dx, _, rfl, hp, rfs_no_end_head _ _ _, _, rfl, p, A.RD, dx, _, _, rfl, hp, T.cl_Reader, T.n_Reader_fields, rfs_fields _ _ _, R.fl, fx, rfl, Or.inl ⟨SqL.of hfx, fun t ht => ?_⟩⟩
            have e1 := Ex.new (o := .tup fx) ht
            have c1 := c0.ex e1
            refine ⟨_, rfl, p, fo, kd, R, b, s, es, t, s.fields, rfl, c1.rf, ⟨fx, upd_same, flds_mono (Tk.of (Ex.new ht)) pfx⟩, ok.fs, ok.bk, hl, ok.st h1' h2' h4', ok.ask, ?_, ?_⟩
            · intro r hr2 H' hh
              exact hk.1 r (eo.trans hr2) H' (c1.tr hh)
            · intro s1 k he C hC d H' hd hh hx hlk
              exact hk.2 s1 k (eo.trans he) C hC d H' (e1.free hd) (c1.tr hh) hx hlk
/-! ### Reader.read_line_end -/
def sp_Reader_read_line_end : Sp := fun vs H Q _ => ∃ (p fo : Addr) (kd : Str) (R : RA) (b : Bk) (s : RS) (es : List Evt) (o : Int), vs = [.ref p, .int o, .ref fo] ∧ RF A H p fo kd R b s es ∧ es.length ≤ 8 ∧ LineOk kd b s ∧ s.line.length ≤ 200 ∧ (∀ x ∈ s.line, octB x = true) ∧ MO A p fo kd b R es (readLineEnd kd b s o) H Q
abbrev N_Reader_read_line_end : List Str := ["self", "octet", "found", "text", "e"]
theorem sc_Reader_read_line_end : FnScope N_Reader_read_line_end ["self", "octet", "found"] (defScope s_Reader_read_line_end) := ⟨rfl, rfl, rfl, by decide +kernel, rfl, by decide +kernel, by decide +kernel⟩
theorem h_Reader_read_line_end (T : Txt K w mg A) : HasM CX0 P w K mg base A.RD "read_line_end" 9 ["self", "octet", "found"] (sp_Reader_read_line_end (A := A)) := by
  refine hasM0 (k := 8) T.d_Reader_read_line_end sc_Reader_read_line_end (fun _ _ _ _ _ _ us hl => match us, hl with | [_, _, _], _ => rfl) (fun vs H Q E h => ?_) (fun ff cdv A0 outer ss H vs Q E hr h => ?_)
  · obtain ⟨p, fo, kd, R, b, s, es, o, rfl, _⟩ := h
    rfl
  · obtain ⟨p, fo, kd, R, b, s, es, o, rfl, hR, hl, ok, hll, hlo, hk⟩ := h
    have c0 := Cur.start hR
    obtain ⟨dx, hp⟩ := c0.rf.at_
    refine ⟨_, ((pss_cons (ps_if (pt_cmpR op_ne (pe_fld (pv 0) rfl) (pe_cmpR op_eq (pv 1) (C8.pe_gc rfl T.c_FEED_reader) (nomark _)) (nomark _)) (pss_cons (ps_expr (pe_mt (pv 0) T.cl_Reader (h_Reader_fail T) (hr.mono (by decide)) paN (pa_cons pe_str (pa_cons (pv 2) pa_nil))))
      (pss_one ps_retN)) pss_nil)
      (pss_cons (ps_fld (pv 0) (pe_not (pe_fld (pv 0) rfl)) rfl)
      (pss_cons (ps_if (pt_val (pe_fld (pv 0) rfl)) (pss_one ps_retN) pss_nil)
      (pss_cons (ps_set (i := 3) sc_Reader_read_line_end.nd rfl (.inl rfl) (pe_fn (h_line_text T) (hr.mono (by decide)) paN (pa_cons (pe_fld (pv 0) rfl) pa_nil)))
      (pss_cons (ps_fld (pv 0) (pe_lst pa_nil) rfl)
      (pss_one (ps_try_two (i := 4) rfl rfl sc_Reader_read_line_end.nd rfl rfl ⟨rfl, by decide, Or.inl T.g_BadLine⟩ ⟨rfl, by decide, Or.inl T.g_BadFrame⟩ takesN
      (fun W pn xe tk _ => (pss_one (ps_expr (pe_mt (pv 0) T.cl_Reader (h_Reader_read_line T) (hr.mono (by decide)) (fun σ => L2N.passAt tk σ) (pa_cons (pv 3) (pa_cons (pv 2) pa_nil))))))
      (fun a oe cls d pn hz hf => (pss_one (ps_expr (pe_mtH (pv 0) T.cl_Reader (hh_Reader_fail T) (L2H.roomH_mark (hr.mono (by decide)) _) (hot_suite hz hf) paN (pa_cons (pe_xf (xf_BadLine T).1 (xf_BadLine T).2 hz.zc hf (pv 4)) (pa_cons (pv 2) pa_nil))))))
      (fun a oe cls d pn hz hf => (pss_one (ps_expr (pe_mtH (pv 0) T.cl_Reader (hh_Reader_fail T) (L2H.roomH_mark (hr.mono (by decide)) _) (hot_suite hz hf) paN (pa_cons (pe_xf (xf_BadFrame T).1 (xf_BadFrame T).2 hz.zc hf (pv 4)) (pa_cons (pv 2) pa_nil)))))))))))))), ?_⟩
    refine ⟨_, rfl, p, A.RD, dx, _, _, rfl, hp, T.cl_Reader, T.n_Reader_is_ending, rfs_is_ending _ _ _, _, rfl, rfl, rfl, _, rfl, ?_⟩
    rw [dec_vi, dec_vb]
    refine ite2 (fun h1 => ?_) (fun h1 => ?_)
    · have h1' : s.ending ≠ decide (o = 10) := by simpa using h1
      have eo : readLineEnd kd b s o = failM "ending" s := if_pos h1'
      refine ⟨_, rfl, p, dx, _, rfl, hp, rfs_no_fail _ _ _, _, rfl, p, fo, kd, R, b, s, es, "ending", rfl, c0.rf, by omega, fun H' hh => hk H' (eo ▸ hh)⟩
    · have h1' : ¬ s.ending ≠ decide (o = 10) := fun q => h1 (by simpa using q)
      refine ⟨_, rfl, p, A.RD, dx, _, _, rfl, hp, T.cl_Reader, T.n_Reader_is_ending, rfs_is_ending _ _ _, _, rfl, _, rfl, p, A.RD, dx, _, rfl, hp, T.cl_Reader, T.n_Reader_is_ending, (by show 15 < 1000; decide), ?_⟩
      rw [put_is_ending]
      have c1 := c0.sc (s2 := { s with ending := !s.ending }) (dx := dx)
      obtain ⟨dx1, hp1⟩ := c1.rf.at_
      refine ⟨_, rfl, p, A.RD, dx1, _, _, rfl, hp1, T.cl_Reader, T.n_Reader_is_ending, rfs_is_ending _ _ _, _, rfl, ?_⟩
      refine ite2 (fun h2 => ?_) (fun h2 => ?_)
      · have h2' : (!s.ending) = true := h2
        refine c1.out hk ?_
        have h3 : s.ending = false := by simpa using h2'
        unfold readLineEnd
        rw [if_neg h1', if_pos h3, h3]
        rfl
      · have h3 : s.ending = true := by
          have : ¬ (!s.ending) = true := h2
          simpa using this
        have eo : readLineEnd kd b s o = (match readLine kd b { s with ending := false, line := [] } (lineS s.line) with
          | .ok r => r
          | .error (s1, k) => failM k s1) := by
          unfold readLineEnd
          rw [if_neg h1', if_neg (by rw [h3]; exact Bool.noConfusion)] <;> rfl
        refine ⟨_, rfl, p, A.RD, dx1, _, _, rfl, hp1, T.cl_Reader, T.n_Reader_line, rfs_line _ _ _, R.ln, s.line, rfl, c1.rf.co.ln, by omega, hlo, fun H2 e2 => ?_⟩
        have c2 := c1.ex e2
        obtain ⟨dx2, hp2⟩ := c2.rf.at_
        refine ⟨Nat.zero_le _, fun l hl2 => ⟨_, rfl, p, A.RD, dx2, _, rfl, ((upd_ne (ne_of_none hp2 hl2)).trans hp2), T.cl_Reader, T.n_Reader_line, (by show 15 < 1000; decide), ?_⟩⟩
        rw [put_line]
        have c3 := c2.line (dx := dx2) hl2
        obtain ⟨dx3, hp3⟩ := c3.rf.at_
        have es3 : ({ s with ending := !s.ending, line := [] } : RS) = { s with ending := false, line := [] } := by rw [h3]; rfl
        refine ⟨_, rfl, p, dx3, _, rfl, hp3, rfs_no_read_line _ _ _, _, rfl, _, rfl, p, fo, kd, { R with ln := l }, b, { s with ending := !s.ending, line := [] }, es, lineS s.line, rfl, c3.rf, lineS_ok hlo, by rw [lineS_len]; omega, hl, ⟨ok.bk, ok.fs, ok.ask, ok.st⟩, ?_, ?_⟩
        · intro r hr2 H' hh
          rw [es3] at hr2
          have e3 : readLineEnd kd b s o = r := by rw [eo, hr2]
          exact hk H' (by rw [e3]; exact c3.tr hh)
        · intro s1 k he C hC d H' hd hh hx hlk
          rw [es3] at he
          have e3 : readLineEnd kd b s o = failM k s1 := by rw [eo, he]
          obtain ⟨R4, c4⟩ := (c3.tr hh).cur
          obtain ⟨dx4, hp4⟩ := c4.rf.at_
          rcases hC with rfl | rfl
          · refine ⟨true, T.x_LL, fun _ a ha => ?_, fun z => by cases z⟩
            refine ⟨_, rfl, p, dx4, _, rfl, hp4, rfs_no_fail _ _ _, _, rfl, rfl, rfl, d, _, .str k, rfl, hx, rfl, _, rfl, p, fo, kd, R4, b, s1, es, k, rfl, c4.rf, by omega, fun H5 h5 => hk H5 (by rw [e3]; exact c4.tr h5)⟩
          · refine ⟨false, T.x_FL, (fun z => by cases z), fun _ => ⟨true, T.x_FF, fun _ a ha => ?_, fun z => by cases z⟩⟩
            refine ⟨_, rfl, p, dx4, _, rfl, hp4, rfs_no_fail _ _ _, _, rfl, rfl, rfl, d, _, .str k, rfl, hx, rfl, _, rfl, p, fo, kd, R4, b, s1, es, k, rfl, c4.rf, by omega, fun H5 h5 => hk H5 (by rw [e3]; exact c4.tr h5)⟩
end
end K32

namespace K32
open PySem PySem.Spec PyProof.Rows L2
section
variable {P : Program} {w : World} {K : PySem.W.Frag} {mg : Str → Option Value} {base : Heap} {A : Adr}
/-! ### Reader.read_octet -/
abbrev elseOf : List Stmt → List Stmt
  | .If _ _ e _ :: _ => e
  | _ => []
theorem in2 (z a b : Str) : (if false = true then !inV (.str z) [.str a, .str b] else inV (.str z) [.str a, .str b]) = decide (z = a ∨ z = b) := by
  rw [show (if false = true then !inV (.str z) [.str a, .str b] else inV (.str z) [.str a, .str b]) = inV (.str z) ([a, b].map V.str) from rfl, inV_strs]
  simp
theorem in3 (z a b c : Str) : (if false = true then !inV (.str z) [.str a, .str b, .str c] else inV (.str z) [.str a, .str b, .str c]) = decide (z = a ∨ z = b ∨ z = c) := by
  rw [show (if false = true then !inV (.str z) [.str a, .str b, .str c] else inV (.str z) [.str a, .str b, .str c]) = inV (.str z) ([a, b, c].map V.str) from rfl, inV_strs]
  simp
theorem in2i (z a b : Int) : (if false = true then !inV (.int z) [.int a, .int b] else inV (.int z) [.int a, .int b]) = decide (z = a ∨ z = b) := by
  show ((a == z) || ((b == z) || false)) = _
  rw [Bool.or_false]
  by_cases h1 : z = a
  · subst h1
    simp
  · by_cases h2 : z = b
    · subst h2
      simp
    · have a1 : (a == z) = false := by simpa using fun q : a = z => h1 q.symm
      have a2 : (b == z) = false := by simpa using fun q : b = z => h2 q.symm
      rw [a1, a2]
      simp [h1, h2]
/-- what holds of a reader's state -/
structure WfR (kd : Str) (b : Bk) (s : RS) : Prop where
  kk : kd = REQS ∨ kd = RESPS
  bk : BkOk b
  fs : OkFs s.fields
  fb : (s.fields.length : Int) ≤ b.fields
  ln : (s.line.length : Int) ≤ b.line
  lo : ∀ x ∈ s.line, octB x = true
  nw : s.now = "start" ∨ s.now = "head" ∨ s.now = "body" ∨ s.now = "waiting" ∨ s.now = "over" ∨ s.now = "raw" ∨ s.now = "wrong"
  as : kd = RESPS → (s.now = "head" ∨ s.now = "body") → s.asks ≠ []
  st : s.now = "head" → StOk kd s.start
  bp : s.now = "body" → s.part = "length" ∨ s.part = "chunk" ∨ s.part = "rest" ∨ s.part = "size" ∨ s.part = "chunk end" ∨ s.part = "trailers"
  lf : s.now = "body" → (s.part = "length" ∨ s.part = "chunk") → 1 ≤ s.left
  hp : s.now = "head" → s.part = ""
  sp : s.now = "start" → s.part = ""
def sp_Reader_read_octet : Sp := fun vs H Q _ => ∃ (p fo : Addr) (kd : Str) (R : RA) (b : Bk) (s : RS) (es : List Evt) (o : Int), vs = [.ref p, .int o, .ref fo] ∧ RF A H p fo kd R b s es ∧ es.length ≤ 8 ∧ WfR kd b s ∧ s.now ≠ "raw" ∧ s.now ≠ "wrong" ∧ ¬ (s.now = "body" ∧ (s.part = "length" ∨ s.part = "chunk" ∨ s.part = "rest")) ∧ MO A p fo kd b R es (readOctet kd b s o) H Q
abbrev N_Reader_read_octet : List Str := ["self", "octet", "found"]
theorem sc_Reader_read_octet : FnScope N_Reader_read_octet ["self", "octet", "found"] (defScope s_Reader_read_octet) := ⟨rfl, rfl, rfl, by decide +kernel, rfl, by decide +kernel, by decide +kernel⟩
theorem h_Reader_read_octet (T : Txt K w mg A) : HasM CX0 P w K mg base A.RD "read_octet" 10 ["self", "octet", "found"] (sp_Reader_read_octet (A := A)) := by
  refine hasM0 (k := 9) T.d_Reader_read_octet sc_Reader_read_octet (fun _ _ _ _ _ _ us hl => match us, hl with | [_, _, _], _ => rfl) (fun vs H Q E h => ?_) (fun ff cdv A0 outer ss H vs Q E hr h => ?_)
  · obtain ⟨p, fo, kd, R, b, s, es, o, rfl, _⟩ := h
    rfl
  · obtain ⟨p, fo, kd, R, b, s, es, o, rfl, hR, hl, wf, nr, nw, nb, hk⟩ := h
    have c0 := Cur.start hR
    obtain ⟨dx, hp⟩ := c0.rf.at_
    obtain ⟨tB, tailB, hB⟩ : ∃ tB, PSs (cxOf CX0 P w K mg base N_Reader_read_octet "Reader.read_octet" (defScope s_Reader_read_octet) ff cdv A0 outer ss H E).nox (elseOf (elseOf (defBody s_Reader_read_octet))) tB ∧
        (∀ Hn, Ex H Hn → ¬ (s.now = "waiting" ∨ s.now = "over") → ¬ (s.now = "start" ∧ kd = RESPS ∧ s.asks = []) → tB { nx := fun _ H' => Q .non H', rt := Q } [some (.ref p), some (.int o), some (.ref fo)] Hn) := by
      refine ⟨_, ((pss_one (ps_if (pt_cmpR op_eq (pe_fld (pv 0) rfl) (C8.pe_gc rfl T.c_CHUNK_END) (nomark _)) (pss_one (ps_expr (pe_mt (pv 0) T.cl_Reader (h_Reader_read_chunk_end T) (hr.mono (by decide)) paN (pa_cons (pv 1) (pa_cons (pv 2) pa_nil))))) (pss_one (ps_if (PW.pt (pw_or (pt_val (pe_fld (pv 0) rfl)) (pw_or1 (pt_cmpR op_in_seq (pv 1) (pe_tup (pa_cons (C8.pe_gc rfl T.c_RETURN_reader) (pa_cons (C8.pe_gc rfl T.c_FEED_reader) pa_nil))) (by rfl))))) (pss_one (ps_expr (pe_mt (pv 0) T.cl_Reader (h_Reader_read_line_end T) (hr.mono (by decide)) paN (pa_cons (pv 1) (pa_cons (pv 2) pa_nil))))) (pss_one (ps_if (pt_not (pt_val (pe_fn (h_is_line_octet T) (hr.mono (by decide)) paN (pa_cons (pv 1) pa_nil)))) (pss_one (ps_expr (pe_mt (pv 0) T.cl_Reader (h_Reader_fail T) (hr.mono (by decide)) paN (pa_cons pe_str (pa_cons (pv 2) pa_nil))))) (pss_one (ps_if (pt_cmpR op_eq (pe_callB call_len_seq (by rfl) T.b_len PySem.boot_len (pa_cons (pe_fld (pv 0) rfl) pa_nil)) (pe_fld (pe_fld (pv 0) rfl) rfl) (nomark _)) (pss_one (ps_expr (pe_mt (pv 0) T.cl_Reader (h_Reader_fail T) (hr.mono (by decide)) paN (pa_cons pe_str (pa_cons (pv 2) pa_nil))))) (pss_one (ps_expr (pe_bm PySem.F.plainAttrs_list PySem.F.slot_list_append PySem.F.type_list_append mt_append (pe_fld (pv 0) rfl) (pa_cons (pv 1) pa_nil))))))))))))), fun Hn en n1 n2 => ?_⟩
      have c1 := c0.ex en
      obtain ⟨dx1, hp1⟩ := c1.rf.at_
      obtain ⟨bdx, hbk⟩ := c1.rf.co.bk
      have eo1 : readOctet kd b s o = (if s.part = "chunk end" then readChunkEnd s o
        else if s.ending = true ∨ o = 13 ∨ o = 10 then readLineEnd kd b s o
        else if octB o = false then failM "octet" s
        else if (s.line.length : Int) = b.line then failM "long" s
        else ({ s with line := s.line ++ [o] }, [])) := by
        unfold readOctet
        rw [if_neg n1, if_neg n2]
      have nows : s.now = "start" ∨ s.now = "head" ∨ s.now = "body" := by
        rcases wf.nw with h | h | h | h | h | h | h
        · exact .inl h
        · exact .inr (.inl h)
        · exact .inr (.inr h)
        · exact absurd (.inl h) n1
        · exact absurd (.inr h) n1
        · exact absurd h nr
        · exact absurd h nw
      have asks : kd = RESPS → s.asks ≠ [] := fun hkr => by
        rcases nows with h | h | h
        · exact fun z => n2 ⟨h, hkr, z⟩
        · exact wf.as hkr (.inl h)
        · exact wf.as hkr (.inr h)
      refine ⟨_, rfl, p, A.RD, dx1, _, _, rfl, hp1, T.cl_Reader, T.n_Reader_part, rfs_part _ _ _, rfl, _, rfl, ?_⟩
      rw [dec_vs]
      refine ite2 (fun h1 => ?_) (fun h1 => ?_)
      · have h1' := of_decide_eq_true h1
        rw [if_pos h1'] at eo1
        exact ⟨_, rfl, p, dx1, _, rfl, hp1, rfs_no_read_chunk_end _ _ _, _, rfl, _, rfl, p, fo, kd, R, b, s, es, o, rfl, c1.rf, by omega, fun H' hh => hk H' (by rw [eo1]; exact c1.tr hh)⟩
      · have h1' : ¬ s.part = "chunk end" := fun q => h1 (decide_eq_true q)
        rw [if_neg h1'] at eo1
        have lok : LineOk kd b s := ⟨wf.bk, wf.fs, asks, fun k1 k2 k3 => by
          rcases nows with h | h | h
          · exact absurd h k2
          · exact wf.st h
          · rcases wf.bp h with q | q | q | q | q | q
            · exact absurd ⟨h, .inl q⟩ nb
            · exact absurd ⟨h, .inr (.inl q)⟩ nb
            · exact absurd ⟨h, .inr (.inr q)⟩ nb
            · exact absurd q k1
            · exact absurd q h1'
            · exact absurd q k3⟩
        have ll : s.line.length ≤ 200 := by
          have := wf.ln
          have := wf.bk.l2
          omega
        refine ⟨_, rfl, p, A.RD, dx1, _, _, rfl, hp1, T.cl_Reader, T.n_Reader_is_ending, rfs_is_ending _ _ _, _, rfl, ?_⟩
        refine ite2 (fun h2 => ?_) (fun h2 => ?_)
        · have h2' : s.ending = true := h2
          rw [if_pos (.inl h2')] at eo1
          exact ⟨_, rfl, p, dx1, _, rfl, hp1, rfs_no_read_line_end _ _ _, _, rfl, _, rfl, p, fo, kd, R, b, s, es, o, rfl, c1.rf, hl, lok, ll, wf.lo, fun H' hh => hk H' (by rw [eo1]; exact c1.tr hh)⟩
        · have h2' : ¬ s.ending = true := h2
          refine ⟨_, rfl, by show 2 ≤ sizeLine; decide, fun q hq => ?_⟩
          have c2 := c1.ex (Ex.new (o := .tup [.int 13, .int 10]) hq)
          obtain ⟨dx2, hp2⟩ := c2.rf.at_
          refine ⟨q, _, rfl, Or.inr (SqT.of upd_same), rfl, rfl, _, rfl, ?_⟩
          rw [in2i]
          refine ite2 (fun h3 => ?_) (fun h3 => ?_)
          · have h3' := of_decide_eq_true h3
            rw [if_pos (.inr h3')] at eo1
            exact ⟨_, rfl, p, dx2, _, rfl, hp2, rfs_no_read_line_end _ _ _, _, rfl, _, rfl, p, fo, kd, R, b, s, es, o, rfl, c2.rf, hl, lok, ll, wf.lo, fun H' hh => hk H' (by rw [eo1]; exact c2.tr hh)⟩
          · have h3' : ¬ (o = 13 ∨ o = 10) := fun z => h3 (decide_eq_true z)
            rw [if_neg (by rintro (z | z); exact h2' z; exact h3' z)] at eo1
            refine ⟨_, rfl, o, rfl, _, rfl, ?_⟩
            refine ite2 (fun h4 => ?_) (fun h4 => ?_)
            · have h4' : octB o = false := by simpa using h4
              rw [if_pos h4'] at eo1
              exact ⟨_, rfl, p, dx2, _, rfl, hp2, rfs_no_fail _ _ _, _, rfl, p, fo, kd, R, b, s, es, "octet", rfl, c2.rf, by omega, fun H' hh => hk H' (by rw [eo1]; exact c2.tr hh)⟩
            · have h4' : ¬ octB o = false := by simpa using h4
              rw [if_neg h4'] at eo1
              obtain ⟨bdx2, hbk2⟩ := c2.rf.co.bk
              refine ⟨_, rfl, p, A.RD, dx2, _, _, rfl, hp2, T.cl_Reader, T.n_Reader_line, rfs_line _ _ _, R.ln, _, rfl, Or.inl (SqL.of c2.rf.co.ln), _, rfl, p, A.RD, dx2, _, _, rfl, hp2, T.cl_Reader, T.n_Reader_book, rfs_book _ _ _, R.bk, A.BK, bdx2, _, _, rfl, hbk2, T.cl_Book, T.n_Book_most_line, bfs_most_line b, rfl, _, rfl, ?_⟩
              rw [dec_vi, List.length_map]
              refine ite2 (fun h5 => ?_) (fun h5 => ?_)
              · have h5' := of_decide_eq_true h5
                rw [if_pos h5'] at eo1
                exact ⟨_, rfl, p, dx2, _, rfl, hp2, rfs_no_fail _ _ _, _, rfl, p, fo, kd, R, b, s, es, "long", rfl, c2.rf, by omega, fun H' hh => hk H' (by rw [eo1]; exact c2.tr hh)⟩
              · have h5' : ¬ (s.line.length : Int) = b.line := fun z => h5 (decide_eq_true z)
                rw [if_neg h5'] at eo1
                refine ⟨_, rfl, p, A.RD, dx2, _, _, rfl, hp2, T.cl_Reader, T.n_Reader_line, rfs_line _ _ _, Or.inl ⟨rfl, _, SqL.of c2.rf.co.ln⟩, _, rfl, R.ln, _, _, rfl, rfl, c2.rf.co.ln, Nat.lt_of_le_of_lt (by rw [List.length_map]; exact ll) (by decide), ?_⟩
                exact (c2.octet o).out hk eo1
    refine ⟨_, ((pss_one (ps_if (pt_cmpR op_in_seq (pe_fld (pv 0) rfl) (pe_tup (pa_cons (C8.pe_gc rfl T.c_WAITING) (pa_cons (C8.pe_gc rfl T.c_OVER) pa_nil))) (by rfl)) (pss_one (ps_expr (pe_mt (pv 0) T.cl_Reader (h_Reader_fail T) (hr.mono (by decide)) paN (pa_cons pe_str (pa_cons (pv 2) pa_nil)))))
      (pss_one (ps_if (PW.pt (pw_and (pt_cmpR op_eq (pe_fld (pv 0) rfl) (C8.pe_gc rfl T.c_START) (nomark _)) (pw_and (pt_cmpR op_eq (pe_fld (pv 0) rfl) (C8.pe_gc rfl T.c_RESPONSES) (nomark _)) (pw_and1 (pt_cmpR (op_eqNil hr.units) (pe_fld (pv 0) rfl) (pe_lst pa_nil) (nomark _)))))) (pss_one (ps_expr (pe_mt (pv 0) T.cl_Reader (h_Reader_fail T) (hr.mono (by decide)) paN (pa_cons pe_str (pa_cons (pv 2) pa_nil)))))
      tailB))))), ?_⟩
    refine ⟨_, rfl, p, A.RD, dx, _, _, rfl, hp, T.cl_Reader, T.n_Reader_now, rfs_now _ _ _, by show 2 ≤ sizeLine; decide, fun q hq => ?_⟩
    have c1 := c0.ex (Ex.new (o := .tup [.str "waiting", .str "over"]) hq)
    obtain ⟨dx1, hp1⟩ := c1.rf.at_
    refine ⟨q, _, rfl, Or.inr (SqT.of upd_same), rfl, rfl, _, rfl, ?_⟩
    rw [in2]
    refine ite2 (fun h1 => ?_) (fun h1 => ?_)
    · have h1' := of_decide_eq_true h1
      have eo : readOctet kd b s o = failM "extra" s := if_pos h1'
      exact ⟨_, rfl, p, dx1, _, rfl, hp1, rfs_no_fail _ _ _, _, rfl, p, fo, kd, R, b, s, es, "extra", rfl, c1.rf, by omega, fun H' hh => hk H' (by rw [eo]; exact c1.tr hh)⟩
    · have h1' : ¬ (s.now = "waiting" ∨ s.now = "over") := fun z => h1 (decide_eq_true z)
      refine ⟨_, rfl, p, A.RD, dx1, _, _, rfl, hp1, T.cl_Reader, T.n_Reader_now, rfs_now _ _ _, rfl, _, rfl, ?_⟩
      rw [dec_vs]
      refine ite2 (fun h2 => ?_) (fun h2 => ?_)
      · have h2' := of_decide_eq_true h2
        refine ⟨_, rfl, p, A.RD, dx1, _, _, rfl, hp1, T.cl_Reader, T.n_Reader_kind, rfs_kind _ _ _, rfl, _, rfl, ?_⟩
        rw [dec_vs]
        refine ite2 (fun h3 => ?_) (fun h3 => ?_)
        · have h3' := of_decide_eq_true h3
          refine ⟨_, rfl, p, A.RD, dx1, _, _, rfl, hp1, T.cl_Reader, T.n_Reader_expected, rfs_expected _ _ _, Nat.zero_le _, fun n hn => ?_⟩
          obtain ⟨ms, hms, pms⟩ := c1.rf.co.ex
          have lm := pms.length
          have c2 := c1.ex (Ex.new (o := .lst []) hn)
          obtain ⟨dx2, hp2⟩ := c2.rf.at_
          refine ⟨R.ex, n, ms, rfl, rfl, SqL.of ((upd_ne (ne_of_none hms hn)).trans hms), upd_same, _, rfl, ?_⟩
          refine ite2 (fun h4 => ?_) (fun h4 => ?_)
          · have h4' : s.asks = [] := by
              have : ms = [] := by simpa using h4
              rw [this] at lm
              exact List.eq_nil_of_length_eq_zero lm.symm
            have eo : readOctet kd b s o = failM "unasked" s := by
              unfold readOctet
              rw [if_neg h1', if_pos ⟨h2', h3', h4'⟩]
            exact ⟨_, rfl, p, dx2, _, rfl, hp2, rfs_no_fail _ _ _, _, rfl, p, fo, kd, R, b, s, es, "unasked", rfl, c2.rf, by omega, fun H' hh => hk H' (by rw [eo]; exact c2.tr hh)⟩
          · refine hB _ ((Ex.new hq).tr (Ex.new hn)) h1' ?_
            rintro ⟨_, _, z⟩
            rw [z] at lm
            have : ms = [] := List.eq_nil_of_length_eq_zero lm
            exact h4 (by rw [this]; rfl)
        · exact hB _ (Ex.new hq) h1' (fun z => h3 (decide_eq_true z.2.1))
      · exact hB _ (Ex.new hq) h1' (fun z => h2 (decide_eq_true z.1))
/-! ### Reader.read_some, with one octet -/
def sp_Reader_read_some : Sp := fun vs H Q _ => ∃ (p fo : Addr) (kd : Str) (R : RA) (b : Bk) (s : RS) (es : List Evt) (d : Addr) (o : Int), vs = [.ref p, .ref d, .int 0, .ref fo] ∧ RF A H p fo kd R b s es ∧ H d = some (.lst [.int o]) ∧ d ∉ ownS p fo R ∧ es.length ≤ 7 ∧ WfR kd b s ∧ s.now ≠ "wrong" ∧
  ∀ H', Po A p fo kd b R (readSome kd b s o).1 (es ++ (readSome kd b s o).2) H H' → Q (.int 1) H'
abbrev N_Reader_read_some : List Str := ["self", "data", "at", "found"]
theorem sc_Reader_read_some : FnScope N_Reader_read_some ["self", "data", "at", "found"] (defScope s_Reader_read_some) := ⟨rfl, rfl, rfl, by decide +kernel, rfl, by decide +kernel, by decide +kernel⟩
theorem h_Reader_read_some (T : Txt K w mg A) : HasM CX0 P w K mg base A.RD "read_some" 11 ["self", "data", "at", "found"] (sp_Reader_read_some (A := A)) := by
  refine hasM0 (k := 10) T.d_Reader_read_some sc_Reader_read_some (fun _ _ _ _ _ _ us hl => match us, hl with | [_, _, _, _], _ => rfl) (fun vs H Q E h => ?_) (fun ff cdv A0 outer ss H vs Q E hr h => ?_)
  · obtain ⟨p, fo, kd, R, b, s, es, d, o, rfl, _⟩ := h
    rfl
  · obtain ⟨p, fo, kd, R, b, s, es, d, o, rfl, hR, hd, hdn, hl, wf, nw, hk⟩ := h
    have c0 := Cur.start hR
    obtain ⟨dx, hp⟩ := c0.rf.at_
    refine ⟨_, ((pss_cons (ps_if (pt_cmpR op_eq (pe_fld (pv 0) rfl) (C8.pe_gc rfl T.c_SWITCHED) (nomark _)) (pss_cons (ps_expr (pe_bm PySem.F.plainAttrs_list PySem.F.slot_list_append PySem.F.type_list_append mt_append (pv 3) (pa_cons (pe_tup (pa_cons (C8.pe_gc rfl T.c_RAW) (pa_cons (pe_callTy call_tuple_of (by rfl) T.b_tuple (by decide +kernel) (pa_cons (pe_slice sl_list (pv 1) (po_some (pv 2)) po_none) pa_nil)) pa_nil))) pa_nil)))
      (pss_one (ps_ret (pe_op op_sub (pe_callB call_len_seq (by rfl) T.b_len PySem.boot_len (pa_cons (pv 1) pa_nil)) (pv 2))))) pss_nil)
      (pss_cons (ps_if (PW.pt (pw_and (pt_cmpR op_eq (pe_fld (pv 0) rfl) (C8.pe_gc rfl T.c_BODY) (nomark _)) (pw_and1 (pt_cmpR op_in_seq (pe_fld (pv 0) rfl) (pe_tup (pa_cons (C8.pe_gc rfl T.c_LENGTH_reader) (pa_cons (C8.pe_gc rfl T.c_CHUNK) (pa_cons (C8.pe_gc rfl T.c_REST) pa_nil)))) (by rfl))))) (pss_one (ps_ret (pe_mt (pv 0) T.cl_Reader (h_Reader_read_run T) (hr.mono (by decide)) paN (pa_cons (pv 1) (pa_cons (pv 2) (pa_cons (pv 3) pa_nil)))))) pss_nil)
      (pss_cons (ps_expr (pe_mt (pv 0) T.cl_Reader (h_Reader_read_octet T) (hr.mono (by decide)) paN (pa_cons (pe_ix ix_list (pv 1) (pv 2) (fun _ _ => rfl)) (pa_cons (pv 3) pa_nil))))
      (pss_one (ps_ret pe_int)))))), ?_⟩
    refine ⟨_, rfl, p, A.RD, dx, _, _, rfl, hp, T.cl_Reader, T.n_Reader_now, rfs_now _ _ _, rfl, _, rfl, ?_⟩
    rw [dec_vs]
    refine ite2 (fun h1 => ?_) (fun h1 => ?_)
    · have h1' := of_decide_eq_true h1
      have eo : readSome kd b s o = (s, [.run "raw" [o]]) := if_pos h1'
      obtain ⟨xs, he, pe⟩ := c0.rf.ev
      have lx := pe.length
      refine ⟨_, rfl, Or.inl ⟨rfl, _, SqL.of he⟩, _, rfl, _, rfl, _, rfl, d, _, rfl, SqL.of hd, fun q hq => ?_⟩
      refine ⟨q, [.int o], rfl, Or.inl ⟨SqL.of upd_same, fun t ht => ?_⟩⟩
      refine ⟨by show 2 ≤ sizeLine; decide, fun u hu => ?_⟩
      have e1 := ((Ex.new (o := .lst [.int o]) hq).tr (Ex.new (o := .tup [.int o]) ht)).tr (Ex.new (o := .tup [.str "raw", .ref t]) hu)
      have c1 := c0.ex e1
      have tu : t ≠ u := ne_of_none upd_same hu
      refine ⟨fo, xs, .ref u, rfl, rfl, e1 _ _ he, Nat.lt_of_le_of_lt (by omega : xs.length ≤ 10) (by decide), ?_⟩
      have c2 := c1.push (e1 _ _ he) (x := .ref u) (e := .run "raw" [o]) ⟨u, _, rfl, upd_same, t, rfl, (upd_ne tu).trans upd_same⟩ (evs_mono (Tk.of e1) pe)
      have hd2 := (c2.kp d _ hd hdn)
      refine ⟨_, rfl, d, _, rfl, Or.inl (SqL.of hd2), _, rfl, _, _, rfl, rfl, hk _ ?_⟩
      rw [eo]
      exact c2.po
    · have h1' : ¬ s.now = "raw" := fun z => h1 (decide_eq_true z)
      have eo1 : readSome kd b s o = (if s.now = "body" ∧ (s.part = "length" ∨ s.part = "chunk" ∨ s.part = "rest") then readRun kd s o else readOctet kd b s o) := if_neg h1'
      have oct : ∀ Hn, Ex H Hn → ¬ (s.now = "body" ∧ (s.part = "length" ∨ s.part = "chunk" ∨ s.part = "rest")) → ∃ dx, Hn p = some (.ins A.RD dx (rfs kd R s)) ∧ Hn d = some (.lst [.int o]) ∧ sp_Reader_read_octet (A := A) [.ref p, .int o, .ref fo] Hn (fun _ H' => Q (.int 1) H') (fun _ _ _ => False) := fun Hn en nb => by
        have c1 := c0.ex en
        obtain ⟨dx1, hp1⟩ := c1.rf.at_
        rw [if_neg nb] at eo1
        refine ⟨dx1, hp1, en _ _ hd, p, fo, kd, R, b, s, es, o, rfl, c1.rf, by omega, wf, h1', nw, nb, fun H' hh => hk H' (by rw [eo1]; exact c1.tr hh)⟩
      refine ⟨_, rfl, p, A.RD, dx, _, _, rfl, hp, T.cl_Reader, T.n_Reader_now, rfs_now _ _ _, rfl, _, rfl, ?_⟩
      rw [dec_vs]
      refine ite2 (fun h2 => ?_) (fun h2 => ?_)
      · have h2' := of_decide_eq_true h2
        refine ⟨_, rfl, p, A.RD, dx, _, _, rfl, hp, T.cl_Reader, T.n_Reader_part, rfs_part _ _ _, by show 3 ≤ sizeLine; decide, fun q hq => ?_⟩
        have e1 := Ex.new (o := .tup [.str "length", .str "chunk", .str "rest"]) hq
        have c1 := c0.ex e1
        obtain ⟨dx1, hp1⟩ := c1.rf.at_
        refine ⟨q, _, rfl, Or.inr (SqT.of upd_same), rfl, rfl, _, rfl, ?_⟩
        rw [in3]
        refine ite2 (fun h3 => ?_) (fun h3 => ?_)
        · have h3' := of_decide_eq_true h3
          rw [if_pos ⟨h2', h3'⟩] at eo1
          refine ⟨_, rfl, p, dx1, _, rfl, hp1, rfs_no_read_run _ _ _, _, rfl, _, rfl, _, rfl, p, fo, kd, R, b, s, es, d, o, rfl, c1.rf, e1 _ _ hd, hdn, by omega, fun nrest => wf.lf h2' ?_, fun hkr => wf.as hkr (.inr h2'), fun H' hh => hk H' (by rw [eo1]; exact c1.tr hh)⟩
          rcases h3' with z | z | z
          · exact .inl z
          · exact .inr z
          · exact absurd z nrest
        · have h3' : ¬ (s.part = "length" ∨ s.part = "chunk" ∨ s.part = "rest") := fun z => h3 (decide_eq_true z)
          obtain ⟨dx2, hp2, hd2, sp⟩ := oct _ e1 (fun z => h3' z.2)
          exact ⟨_, rfl, p, dx2, _, rfl, hp2, rfs_no_read_octet _ _ _, _, rfl, _, rfl, d, _, _, _, rfl, rfl, SqL.of hd2, at0 _ _, _, rfl, sp⟩
      · obtain ⟨dx2, hp2, hd2, sp⟩ := oct _ (Ex.rfl' _) (fun z => h2 (decide_eq_true z.1))
        exact ⟨_, rfl, p, dx2, _, rfl, hp2, rfs_no_read_octet _ _ _, _, rfl, _, rfl, d, _, _, _, rfl, rfl, SqL.of hd2, at0 _ _, _, rfl, sp⟩
end
end K32

namespace K32
open PySem PySem.Spec PyProof.Rows L2
/-! ### the reader without a list of events -/
abbrev ownP (p : Addr) (R : RA) : List Addr := [p, R.ln, R.fl, R.ex]
structure RdP (A : Adr) (H : Hp) (p : Addr) (kd : Str) (R : RA) (b : Bk) (s : RS) : Prop where
  at_ : ∃ dx, H p = some (.ins A.RD dx (rfs kd R s))
  co : RdC A H R b s
  n1 : R.ln ≠ R.fl
  n2 : R.ln ≠ R.ex
  n3 : R.fl ≠ R.ex
theorem RdP.mono {A : Adr} {H H' : Hp} {p : Addr} {kd : Str} {R : RA} {b : Bk} {s : RS} (h : RdP A H p kd R b s) (e : Ex H H') : RdP A H' p kd R b s := by
  obtain ⟨⟨dx, hp⟩, ⟨c1, c2, c3, ⟨fl, hf, pf⟩, ⟨ms, hx, px⟩, ⟨ma, mdx, me, hm⟩⟩, n1, n2, n3⟩ := h
  exact ⟨⟨dx, e _ _ hp⟩, ⟨c1.mono e, e _ _ c2, e _ _ c3, ⟨fl, e _ _ hf, flds_mono (Tk.of e) pf⟩, ⟨ms, e _ _ hx, L2.Paired.mapP px fun _ _ q => by
    obtain ⟨a, d, q1, q2⟩ := q
    exact ⟨a, d, q1, e _ _ q2⟩⟩, ⟨ma, mdx, me, e _ _ hm⟩⟩, n1, n2, n3⟩
/-- the reader's things are there -/
theorem RdP.there {A : Adr} {H : Hp} {p : Addr} {kd : Str} {R : RA} {b : Bk} {s : RS} (h : RdP A H p kd R b s) : ∀ a ∈ ownP p R, ∃ o, H a = some o ∧ Mut o := by
  obtain ⟨dx, hp⟩ := h.at_
  obtain ⟨fl, hf, _⟩ := h.co.fl
  obtain ⟨ms, hx, _⟩ := h.co.ex
  intro a ha
  simp only [List.mem_cons, List.not_mem_nil, or_false] at ha
  rcases ha with rfl | rfl | rfl | rfl
  · exact ⟨_, hp, .inr ⟨_, _, _, rfl, rfl⟩⟩
  · exact ⟨_, h.co.ln, .inl ⟨_, rfl⟩⟩
  · exact ⟨_, hf, .inl ⟨_, rfl⟩⟩
  · exact ⟨_, hx, .inl ⟨_, rfl⟩⟩
theorem RdP.out {A : Adr} {H : Hp} {p a : Addr} {kd : Str} {R : RA} {b : Bk} {s : RS} (h : RdP A H p kd R b s) (ha : H a = none) : a ∉ ownP p R := fun hm => by
  obtain ⟨o, ho, _⟩ := h.there a hm
  rw [ha] at ho
  cases ho
theorem RdP.rf {A : Adr} {H : Hp} {p fo : Addr} {kd : Str} {R : RA} {b : Bk} {s : RS} (h : RdP A H p kd R b s) (hfo : H fo = none) : RF A (upd H fo (.lst [])) p fo kd R b s [] := by
  have h2 := h.mono (Ex.new (o := .lst []) hfo)
  have ho := h.out hfo
  simp only [List.mem_cons, List.not_mem_nil, or_false, not_or] at ho
  exact ⟨h2.at_, h2.co, ⟨[], upd_same, .nil⟩, h.n1, h.n2, h.n3, ho.2.1, ho.2.2.1, ho.2.2.2⟩
theorem RF.rdp {A : Adr} {H : Hp} {p fo : Addr} {kd : Str} {R : RA} {b : Bk} {s : RS} {es : List Evt} (h : RF A H p fo kd R b s es) : RdP A H p kd R b s := ⟨h.at_, h.co, h.n1, h.n2, h.n3⟩
section
variable {P : Program} {w : World} {K : PySem.W.Frag} {mg : Str → Option Value} {base : Heap} {A : Adr}
/-! ### Reader.feed, one octet -/
def sp_Reader_feed : Sp := fun vs H Q _ => ∃ (p : Addr) (kd : Str) (R : RA) (b : Bk) (s : RS) (d : Addr) (o : Int), vs = [.ref p, .ref d] ∧ RdP A H p kd R b s ∧ H d = some (.lst [.int o]) ∧ 0 ≤ o ∧ o ≤ 255 ∧ d ∉ ownP p R ∧ WfR kd b s ∧
  ∀ fo R' H', RdP A H' p kd R' b (stepM kd b s o).1 → EL H' fo (stepM kd b s o).2 → Kept (ownP p R) H H' → (∀ a ∈ ownP p R', a ∈ ownP p R ∨ H a = none) → H fo = none → fo ∉ ownP p R' → Q (.ref fo) H'
abbrev N_Reader_feed : List Str := ["self", "data", "found", "at", "used"]
theorem sc_Reader_feed : FnScope N_Reader_feed ["self", "data"] (defScope s_Reader_feed) := ⟨rfl, rfl, rfl, by decide +kernel, rfl, by decide +kernel, by decide +kernel⟩
theorem h_Reader_feed (T : Txt K w mg A) : HasM CX0 P w K mg base A.RD "feed" 12 ["self", "data"] (sp_Reader_feed (A := A)) := by
  refine hasM0 (k := 11) T.d_Reader_feed sc_Reader_feed (fun _ _ _ _ _ _ us hl => match us, hl with | [_, _], _ => rfl) (fun vs H Q E h => ?_) (fun ff cdv A0 outer ss H vs Q E hr h => ?_)
  · obtain ⟨p, kd, R, b, s, d, o, rfl, _⟩ := h
    rfl
  · obtain ⟨p, kd, R, b, s, d, o, rfl, hR, hd, ho1, ho2, hdn, wf, hk⟩ := h
    refine ⟨_, ((pss_cons (ps_if (pt_not (pt_val (pe_fn (h_is_data T) (hr.mono (by decide)) paN (pa_cons (pv 1) pa_nil)))) (pss_one ps_never) pss_nil)
      (pss_cons (ps_expr (pe_mt0 (pv 0) T.cl_Reader (h_Reader_look_open T) (hr.mono (by decide)) paN))
      (pss_cons (ps_par (i := 2) (j := 3) (by rfl) sc_Reader_feed.nd rfl rfl (by decide) rfl rfl (pa_cons (pe_lst pa_nil) (pa_cons pe_int pa_nil)) (by rfl))
      (pss_cons (ps_while PassesOwn.never (PW.pt (pw_and (pt_cmpR op_lt (pv 3) (pe_callB call_len_seq (by rfl) T.b_len PySem.boot_len (pa_cons (pv 1) pa_nil)) (nomark _)) (pw_and1 (pt_cmpR op_ne (pe_fld (pv 0) rfl) (C8.pe_gc rfl T.c_WRONG) (nomark _)))))
      (pss_cons (ps_set (i := 4) sc_Reader_feed.nd rfl (.inl rfl) (pe_mt (pv 0) T.cl_Reader (h_Reader_read_some T) (hr.mono (by decide)) paN (pa_cons (pv 1) (pa_cons (pv 3) (pa_cons (pv 2) pa_nil)))))
      (pss_cons (ps_aug (i := 3) sc_Reader_feed.nd rfl (.inl rfl) (pv 4) ip_add)
      (pss_one (ps_fldaug (pv 0) (pv 4) in_add)))))
      (pss_cons (ps_fldaug (pv 0) (pe_op op_sub (pe_callB call_len_seq (by rfl) T.b_len PySem.boot_len (pa_cons (pv 1) pa_nil)) (pv 3)) in_add)
      (pss_one (ps_ret (pv 2))))))))), ?_⟩
    refine ⟨_, rfl, d, [o], rfl, hd, (by show 1 ≤ 4000; decide), fun x hx => by rw [List.mem_singleton.mp hx]; exact ⟨ho1, ho2⟩, fun H1 e1 => ⟨true, rfl, iteF ?_⟩⟩
    have R1 := hR.mono e1
    obtain ⟨dx1, hp1⟩ := R1.at_
    refine ⟨_, rfl, p, dx1, _, rfl, hp1, rfs_no_look_open _ _ _, p, kd, R, s, dx1, rfl, hp1, ?_⟩
    refine ⟨Nat.zero_le _, fun fo hfo => ⟨_, _, rfl, ?_⟩⟩
    have hfo0 : H fo = none := e1.free hfo
    have c0 := Cur.start (R1.rf hfo)
    have hd2 : (upd H1 fo (.lst [])) d = some (.lst [.int o]) := (upd_ne (ne_of_none (e1 _ _ hd) hfo)).trans (e1 _ _ hd)
    have hdS : d ∉ ownS p fo R := fun z => by
      simp only [List.mem_cons, List.not_mem_nil, or_false] at z hdn
      rcases z with z | z | z | z | z
      · exact hdn (.inl z)
      · exact hdn (.inr (.inl z))
      · exact hdn (.inr (.inr (.inl z)))
      · exact hdn (.inr (.inr (.inr z)))
      · rw [z, hfo0] at hd
        cases hd
    generalize hH2 : upd H1 fo (.lst []) = H2 at *
    have ex2 : Ex H H2 := by rw [← hH2]; exact e1.tr (Ex.new hfo)
    -- what is told at the end
    have fin : ∀ (Hn : Hp) (Rn : RA), Cur A p fo kd b R H2 Hn Rn (stepM kd b s o).1 ((stepM kd b s o).2) → Q (.ref fo) Hn := fun Hn Rn c => by
      refine hk fo Rn Hn c.rf.rdp c.rf.ev ?_ ?_ hfo0 ?_
      · intro a u ha hn
        refine c.kp a u (ex2 _ _ ha) (fun z => ?_)
        simp only [List.mem_cons, List.not_mem_nil, or_false] at z hn
        rcases z with z | z | z | z | z
        · exact hn (.inl z)
        · exact hn (.inr (.inl z))
        · exact hn (.inr (.inr (.inl z)))
        · exact hn (.inr (.inr (.inr z)))
        · rw [z, hfo0] at ha
          cases ha
      · intro a ha
        simp only [List.mem_cons, List.not_mem_nil, or_false] at ha ⊢
        rcases ha with ha | ha
        · exact .inl (.inl ha)
        · rcases c.ow a ha with z | z
          · exact .inl (.inr z)
          · exact .inr (ex2.free z)
      · intro z
        simp only [List.mem_cons, List.not_mem_nil, or_false] at z
        rcases z with z | z | z | z
        · exact c.rf.ne.2.2.2.1 z.symm
        · exact c.rf.n4 z
        · exact c.rf.n5 z
        · exact c.rf.n6 z
    refine ⟨fun m σ Hn => (m = 1 ∧ σ = [some (.ref p), some (.ref d), some (.ref fo), some (.int 0), none] ∧ Hn = H2) ∨ (m = 0 ∧ σ = [some (.ref p), some (.ref d), some (.ref fo), some (.int 1), some (.int 1)] ∧ Hn d = some (.lst [.int o]) ∧ ∃ Rn, Cur A p fo kd b R H2 Hn Rn (stepM kd b s o).1 ((stepM kd b s o).2)), ⟨1, .inl ⟨rfl, rfl, rfl⟩⟩, ?_⟩
    rintro m σ Hn (⟨rfl, rfl, rfl⟩ | ⟨rfl, rfl, hdN, Rn, c⟩)
    · obtain ⟨dx, hp⟩ := c0.rf.at_
      refine ⟨_, rfl, _, rfl, d, _, rfl, Or.inl (SqL.of hd2), _, _, rfl, rfl, _, rfl, ?_⟩
      refine ite2 (fun _ => ?_) (fun z => absurd (show decide ((0 : Int) < (([V.int o].length : Nat) : Int)) = true from rfl) z)
      refine ⟨_, rfl, p, A.RD, dx, _, _, rfl, hp, T.cl_Reader, T.n_Reader_now, rfs_now _ _ _, rfl, _, rfl, ?_⟩
      rw [dec_vs]
      refine ite2 (fun h1 => ?_) (fun h1 => ?_)
      · have h1' : s.now ≠ "wrong" := by simpa using h1
        refine ⟨fun σ' H' => σ' = [some (.ref p), some (.ref d), some (.ref fo), some (.int 1), some (.int 1)] ∧ H' d = some (.lst [.int o]) ∧ ∃ Rn, Cur A p fo kd b R Hn H' Rn (stepM kd b s o).1 ((stepM kd b s o).2), fun σ' H' z => ⟨0, Nat.zero_lt_one, .inr ⟨rfl, z⟩⟩, ?_⟩
        have es1 : stepM kd b s o = ({ (readSome kd b s o).1 with count := (readSome kd b s o).1.count + 1 }, (readSome kd b s o).2) := if_neg h1'
        refine ⟨_, rfl, p, dx, _, rfl, hp, rfs_no_read_some _ _ _, _, rfl, _, rfl, _, rfl, p, fo, kd, R, b, s, [], d, o, rfl, c0.rf, hd2, hdS, by decide, wf, h1', fun H3 h3 => ?_⟩
        obtain ⟨R3, c3⟩ := h3.cur
        obtain ⟨dx3, hp3⟩ := c3.rf.at_
        refine ⟨_, rfl, _, rfl, _, _, rfl, rfl, ?_⟩
        refine ⟨_, rfl, p, A.RD, dx3, _, _, rfl, hp3, T.cl_Reader, T.n_Reader_count, rfs_count _ _ _, _, rfl, _, _, rfl, rfl, dx3, _, hp3, (by show 15 < 1000; decide), ?_⟩
        rw [put_count]
        refine ⟨rfl, ?_, R3, ?_⟩
        · exact (upd_ne (fun z => hdS (by rw [z]; exact ownS_p))).trans (c3.kp d _ hd2 hdS)
        · have c4 := c3.sc (s2 := { (readSome kd b s o).1 with count := (readSome kd b s o).1.count + 1 }) (dx := dx3)
          rw [es1]
          exact c4
      · have h1' : s.now = "wrong" := by simpa using h1
        have es1 : stepM kd b s o = ({ s with count := s.count + 1 }, []) := if_pos h1'
        refine ⟨_, rfl, p, A.RD, dx, _, _, rfl, hp, T.cl_Reader, T.n_Reader_count, rfs_count _ _ _, _, rfl, d, _, rfl, Or.inl (SqL.of hd2), _, rfl, _, _, rfl, rfl, _, _, rfl, rfl, dx, _, hp, (by show 15 < 1000; decide), ?_⟩
        rw [put_count]
        refine ⟨_, rfl, fin _ R ?_⟩
        have c4 := c0.sc (s2 := { s with count := s.count + 1 }) (dx := dx)
        rw [es1]
        exact c4
    · obtain ⟨dx, hp⟩ := c.rf.at_
      refine ⟨_, rfl, _, rfl, d, _, rfl, Or.inl (SqL.of hdN), _, _, rfl, rfl, _, rfl, ?_⟩
      refine ite2 (fun z => absurd z (show ¬ decide ((1 : Int) < (1 : Int)) = true from by decide)) (fun z => ?_)
      refine ⟨_, rfl, p, A.RD, dx, _, _, rfl, hp, T.cl_Reader, T.n_Reader_count, rfs_count _ _ _, _, rfl, d, _, rfl, Or.inl (SqL.of hdN), _, rfl, _, _, rfl, rfl, _, _, rfl, rfl, dx, _, hp, (by show 15 < 1000; decide), ?_⟩
      rw [put_count]
      refine ⟨_, rfl, fin _ Rn ?_⟩
      have ec : (stepM kd b s o).1.count + ((([V.int o].length : Nat) : Int) - 1) = (stepM kd b s o).1.count := by
        show _ + ((1 : Int) - 1) = _
        omega
      rw [ec]
      exact c.sc (s2 := (stepM kd b s o).1) (dx := dx)
end
end K32

namespace K32
open PySem PySem.Spec PyProof.Rows L2
theorem rini_0 (v0 : V) : putF ("book" : Str) v0 ([] : List (Str × V)) = ([("book", v0)] : List (Str × V)) := by
  simp [putF]
theorem rini_1 (v0 v1 : V) : putF ("kind" : Str) v1 ([("book", v0)] : List (Str × V)) = ([("book", v0), ("kind", v1)] : List (Str × V)) := by
  have h0 : ¬ (("book" : Str) = "kind") := by decide +kernel
  simp [putF, h0]
theorem rini_2 (v0 v1 v2 : V) : putF ("now" : Str) v2 ([("book", v0), ("kind", v1)] : List (Str × V)) = ([("book", v0), ("kind", v1), ("now", v2)] : List (Str × V)) := by
  have h0 : ¬ (("book" : Str) = "now") := by decide +kernel
  have h1 : ¬ (("kind" : Str) = "now") := by decide +kernel
  simp [putF, h0, h1]
theorem rini_3 (v0 v1 v2 v3 : V) : putF ("part" : Str) v3 ([("book", v0), ("kind", v1), ("now", v2)] : List (Str × V)) = ([("book", v0), ("kind", v1), ("now", v2), ("part", v3)] : List (Str × V)) := by
  have h0 : ¬ (("book" : Str) = "part") := by decide +kernel
  have h1 : ¬ (("kind" : Str) = "part") := by decide +kernel
  have h2 : ¬ (("now" : Str) = "part") := by decide +kernel
  simp [putF, h0, h1, h2]
theorem rini_4 (v0 v1 v2 v3 v4 : V) : putF ("count" : Str) v4 ([("book", v0), ("kind", v1), ("now", v2), ("part", v3)] : List (Str × V)) = ([("book", v0), ("kind", v1), ("now", v2), ("part", v3), ("count", v4)] : List (Str × V)) := by
  have h0 : ¬ (("book" : Str) = "count") := by decide +kernel
  have h1 : ¬ (("kind" : Str) = "count") := by decide +kernel
  have h2 : ¬ (("now" : Str) = "count") := by decide +kernel
  have h3 : ¬ (("part" : Str) = "count") := by decide +kernel
  simp [putF, h0, h1, h2, h3]
theorem rini_5 (v0 v1 v2 v3 v4 v5 : V) : putF ("line" : Str) v5 ([("book", v0), ("kind", v1), ("now", v2), ("part", v3), ("count", v4)] : List (Str × V)) = ([("book", v0), ("kind", v1), ("now", v2), ("part", v3), ("count", v4), ("line", v5)] : List (Str × V)) := by
  have h0 : ¬ (("book" : Str) = "line") := by decide +kernel
  have h1 : ¬ (("kind" : Str) = "line") := by decide +kernel
  have h2 : ¬ (("now" : Str) = "line") := by decide +kernel
  have h3 : ¬ (("part" : Str) = "line") := by decide +kernel
  have h4 : ¬ (("count" : Str) = "line") := by decide +kernel
  simp [putF, h0, h1, h2, h3, h4]
theorem rini_6 (v0 v1 v2 v3 v4 v5 v6 : V) : putF ("is_ending" : Str) v6 ([("book", v0), ("kind", v1), ("now", v2), ("part", v3), ("count", v4), ("line", v5)] : List (Str × V)) = ([("book", v0), ("kind", v1), ("now", v2), ("part", v3), ("count", v4), ("line", v5), ("is_ending", v6)] : List (Str × V)) := by
  have h0 : ¬ (("book" : Str) = "is_ending") := by decide +kernel
  have h1 : ¬ (("kind" : Str) = "is_ending") := by decide +kernel
  have h2 : ¬ (("now" : Str) = "is_ending") := by decide +kernel
  have h3 : ¬ (("part" : Str) = "is_ending") := by decide +kernel
  have h4 : ¬ (("count" : Str) = "is_ending") := by decide +kernel
  have h5 : ¬ (("line" : Str) = "is_ending") := by decide +kernel
  simp [putF, h0, h1, h2, h3, h4, h5]
theorem rini_7 (v0 v1 v2 v3 v4 v5 v6 v7 : V) : putF ("start" : Str) v7 ([("book", v0), ("kind", v1), ("now", v2), ("part", v3), ("count", v4), ("line", v5), ("is_ending", v6)] : List (Str × V)) = ([("book", v0), ("kind", v1), ("now", v2), ("part", v3), ("count", v4), ("line", v5), ("is_ending", v6), ("start", v7)] : List (Str × V)) := by
  have h0 : ¬ (("book" : Str) = "start") := by decide +kernel
  have h1 : ¬ (("kind" : Str) = "start") := by decide +kernel
  have h2 : ¬ (("now" : Str) = "start") := by decide +kernel
  have h3 : ¬ (("part" : Str) = "start") := by decide +kernel
  have h4 : ¬ (("count" : Str) = "start") := by decide +kernel
  have h5 : ¬ (("line" : Str) = "start") := by decide +kernel
  have h6 : ¬ (("is_ending" : Str) = "start") := by decide +kernel
  simp [putF, h0, h1, h2, h3, h4, h5, h6]
theorem rini_8 (v0 v1 v2 v3 v4 v5 v6 v7 v8 : V) : putF ("fields" : Str) v8 ([("book", v0), ("kind", v1), ("now", v2), ("part", v3), ("count", v4), ("line", v5), ("is_ending", v6), ("start", v7)] : List (Str × V)) = ([("book", v0), ("kind", v1), ("now", v2), ("part", v3), ("count", v4), ("line", v5), ("is_ending", v6), ("start", v7), ("fields", v8)] : List (Str × V)) := by
  have h0 : ¬ (("book" : Str) = "fields") := by decide +kernel
  have h1 : ¬ (("kind" : Str) = "fields") := by decide +kernel
  have h2 : ¬ (("now" : Str) = "fields") := by decide +kernel
  have h3 : ¬ (("part" : Str) = "fields") := by decide +kernel
  have h4 : ¬ (("count" : Str) = "fields") := by decide +kernel
  have h5 : ¬ (("line" : Str) = "fields") := by decide +kernel
  have h6 : ¬ (("is_ending" : Str) = "fields") := by decide +kernel
  have h7 : ¬ (("start" : Str) = "fields") := by decide +kernel
  simp [putF, h0, h1, h2, h3, h4, h5, h6, h7]
theorem rini_9 (v0 v1 v2 v3 v4 v5 v6 v7 v8 v9 : V) : putF ("left" : Str) v9 ([("book", v0), ("kind", v1), ("now", v2), ("part", v3), ("count", v4), ("line", v5), ("is_ending", v6), ("start", v7), ("fields", v8)] : List (Str × V)) = ([("book", v0), ("kind", v1), ("now", v2), ("part", v3), ("count", v4), ("line", v5), ("is_ending", v6), ("start", v7), ("fields", v8), ("left", v9)] : List (Str × V)) := by
  have h0 : ¬ (("book" : Str) = "left") := by decide +kernel
  have h1 : ¬ (("kind" : Str) = "left") := by decide +kernel
  have h2 : ¬ (("now" : Str) = "left") := by decide +kernel
  have h3 : ¬ (("part" : Str) = "left") := by decide +kernel
  have h4 : ¬ (("count" : Str) = "left") := by decide +kernel
  have h5 : ¬ (("line" : Str) = "left") := by decide +kernel
  have h6 : ¬ (("is_ending" : Str) = "left") := by decide +kernel
  have h7 : ¬ (("start" : Str) = "left") := by decide +kernel
  have h8 : ¬ (("fields" : Str) = "left") := by decide +kernel
  simp [putF, h0, h1, h2, h3, h4, h5, h6, h7, h8]
theorem rini_10 (v0 v1 v2 v3 v4 v5 v6 v7 v8 v9 v10 : V) : putF ("expected" : Str) v10 ([("book", v0), ("kind", v1), ("now", v2), ("part", v3), ("count", v4), ("line", v5), ("is_ending", v6), ("start", v7), ("fields", v8), ("left", v9)] : List (Str × V)) = ([("book", v0), ("kind", v1), ("now", v2), ("part", v3), ("count", v4), ("line", v5), ("is_ending", v6), ("start", v7), ("fields", v8), ("left", v9), ("expected", v10)] : List (Str × V)) := by
  have h0 : ¬ (("book" : Str) = "expected") := by decide +kernel
  have h1 : ¬ (("kind" : Str) = "expected") := by decide +kernel
  have h2 : ¬ (("now" : Str) = "expected") := by decide +kernel
  have h3 : ¬ (("part" : Str) = "expected") := by decide +kernel
  have h4 : ¬ (("count" : Str) = "expected") := by decide +kernel
  have h5 : ¬ (("line" : Str) = "expected") := by decide +kernel
  have h6 : ¬ (("is_ending" : Str) = "expected") := by decide +kernel
  have h7 : ¬ (("start" : Str) = "expected") := by decide +kernel
  have h8 : ¬ (("fields" : Str) = "expected") := by decide +kernel
  have h9 : ¬ (("left" : Str) = "expected") := by decide +kernel
  simp [putF, h0, h1, h2, h3, h4, h5, h6, h7, h8, h9]
theorem rini_11 (v0 v1 v2 v3 v4 v5 v6 v7 v8 v9 v10 v11 : V) : putF ("message" : Str) v11 ([("book", v0), ("kind", v1), ("now", v2), ("part", v3), ("count", v4), ("line", v5), ("is_ending", v6), ("start", v7), ("fields", v8), ("left", v9), ("expected", v10)] : List (Str × V)) = ([("book", v0), ("kind", v1), ("now", v2), ("part", v3), ("count", v4), ("line", v5), ("is_ending", v6), ("start", v7), ("fields", v8), ("left", v9), ("expected", v10), ("message", v11)] : List (Str × V)) := by
  have h0 : ¬ (("book" : Str) = "message") := by decide +kernel
  have h1 : ¬ (("kind" : Str) = "message") := by decide +kernel
  have h2 : ¬ (("now" : Str) = "message") := by decide +kernel
  have h3 : ¬ (("part" : Str) = "message") := by decide +kernel
  have h4 : ¬ (("count" : Str) = "message") := by decide +kernel
  have h5 : ¬ (("line" : Str) = "message") := by decide +kernel
  have h6 : ¬ (("is_ending" : Str) = "message") := by decide +kernel
  have h7 : ¬ (("start" : Str) = "message") := by decide +kernel
  have h8 : ¬ (("fields" : Str) = "message") := by decide +kernel
  have h9 : ¬ (("left" : Str) = "message") := by decide +kernel
  have h10 : ¬ (("expected" : Str) = "message") := by decide +kernel
  simp [putF, h0, h1, h2, h3, h4, h5, h6, h7, h8, h9, h10]
theorem rini_12 (v0 v1 v2 v3 v4 v5 v6 v7 v8 v9 v10 v11 v12 : V) : putF ("is_last" : Str) v12 ([("book", v0), ("kind", v1), ("now", v2), ("part", v3), ("count", v4), ("line", v5), ("is_ending", v6), ("start", v7), ("fields", v8), ("left", v9), ("expected", v10), ("message", v11)] : List (Str × V)) = ([("book", v0), ("kind", v1), ("now", v2), ("part", v3), ("count", v4), ("line", v5), ("is_ending", v6), ("start", v7), ("fields", v8), ("left", v9), ("expected", v10), ("message", v11), ("is_last", v12)] : List (Str × V)) := by
  have h0 : ¬ (("book" : Str) = "is_last") := by decide +kernel
  have h1 : ¬ (("kind" : Str) = "is_last") := by decide +kernel
  have h2 : ¬ (("now" : Str) = "is_last") := by decide +kernel
  have h3 : ¬ (("part" : Str) = "is_last") := by decide +kernel
  have h4 : ¬ (("count" : Str) = "is_last") := by decide +kernel
  have h5 : ¬ (("line" : Str) = "is_last") := by decide +kernel
  have h6 : ¬ (("is_ending" : Str) = "is_last") := by decide +kernel
  have h7 : ¬ (("start" : Str) = "is_last") := by decide +kernel
  have h8 : ¬ (("fields" : Str) = "is_last") := by decide +kernel
  have h9 : ¬ (("left" : Str) = "is_last") := by decide +kernel
  have h10 : ¬ (("expected" : Str) = "is_last") := by decide +kernel
  have h11 : ¬ (("message" : Str) = "is_last") := by decide +kernel
  simp [putF, h0, h1, h2, h3, h4, h5, h6, h7, h8, h9, h10, h11]
theorem rini_13 (v0 v1 v2 v3 v4 v5 v6 v7 v8 v9 v10 v11 v12 v13 : V) : putF ("skips_wait" : Str) v13 ([("book", v0), ("kind", v1), ("now", v2), ("part", v3), ("count", v4), ("line", v5), ("is_ending", v6), ("start", v7), ("fields", v8), ("left", v9), ("expected", v10), ("message", v11), ("is_last", v12)] : List (Str × V)) = ([("book", v0), ("kind", v1), ("now", v2), ("part", v3), ("count", v4), ("line", v5), ("is_ending", v6), ("start", v7), ("fields", v8), ("left", v9), ("expected", v10), ("message", v11), ("is_last", v12), ("skips_wait", v13)] : List (Str × V)) := by
  have h0 : ¬ (("book" : Str) = "skips_wait") := by decide +kernel
  have h1 : ¬ (("kind" : Str) = "skips_wait") := by decide +kernel
  have h2 : ¬ (("now" : Str) = "skips_wait") := by decide +kernel
  have h3 : ¬ (("part" : Str) = "skips_wait") := by decide +kernel
  have h4 : ¬ (("count" : Str) = "skips_wait") := by decide +kernel
  have h5 : ¬ (("line" : Str) = "skips_wait") := by decide +kernel
  have h6 : ¬ (("is_ending" : Str) = "skips_wait") := by decide +kernel
  have h7 : ¬ (("start" : Str) = "skips_wait") := by decide +kernel
  have h8 : ¬ (("fields" : Str) = "skips_wait") := by decide +kernel
  have h9 : ¬ (("left" : Str) = "skips_wait") := by decide +kernel
  have h10 : ¬ (("expected" : Str) = "skips_wait") := by decide +kernel
  have h11 : ¬ (("message" : Str) = "skips_wait") := by decide +kernel
  have h12 : ¬ (("is_last" : Str) = "skips_wait") := by decide +kernel
  simp [putF, h0, h1, h2, h3, h4, h5, h6, h7, h8, h9, h10, h11, h12]
theorem rini_14 (v0 v1 v2 v3 v4 v5 v6 v7 v8 v9 v10 v11 v12 v13 v14 : V) : putF ("is_closed" : Str) v14 ([("book", v0), ("kind", v1), ("now", v2), ("part", v3), ("count", v4), ("line", v5), ("is_ending", v6), ("start", v7), ("fields", v8), ("left", v9), ("expected", v10), ("message", v11), ("is_last", v12), ("skips_wait", v13)] : List (Str × V)) = ([("book", v0), ("kind", v1), ("now", v2), ("part", v3), ("count", v4), ("line", v5), ("is_ending", v6), ("start", v7), ("fields", v8), ("left", v9), ("expected", v10), ("message", v11), ("is_last", v12), ("skips_wait", v13), ("is_closed", v14)] : List (Str × V)) := by
  have h0 : ¬ (("book" : Str) = "is_closed") := by decide +kernel
  have h1 : ¬ (("kind" : Str) = "is_closed") := by decide +kernel
  have h2 : ¬ (("now" : Str) = "is_closed") := by decide +kernel
  have h3 : ¬ (("part" : Str) = "is_closed") := by decide +kernel
  have h4 : ¬ (("count" : Str) = "is_closed") := by decide +kernel
  have h5 : ¬ (("line" : Str) = "is_closed") := by decide +kernel
  have h6 : ¬ (("is_ending" : Str) = "is_closed") := by decide +kernel
  have h7 : ¬ (("start" : Str) = "is_closed") := by decide +kernel
  have h8 : ¬ (("fields" : Str) = "is_closed") := by decide +kernel
  have h9 : ¬ (("left" : Str) = "is_closed") := by decide +kernel
  have h10 : ¬ (("expected" : Str) = "is_closed") := by decide +kernel
  have h11 : ¬ (("message" : Str) = "is_closed") := by decide +kernel
  have h12 : ¬ (("is_last" : Str) = "is_closed") := by decide +kernel
  have h13 : ¬ (("skips_wait" : Str) = "is_closed") := by decide +kernel
  simp [putF, h0, h1, h2, h3, h4, h5, h6, h7, h8, h9, h10, h11, h12, h13]

theorem bini_0 (v0 : V) : putF ("both" : Str) v0 ([] : List (Str × V)) = ([("both", v0)] : List (Str × V)) := by
  simp [putF]
theorem bini_1 (v0 v1 : V) : putF ("lengths" : Str) v1 ([("both", v0)] : List (Str × V)) = ([("both", v0), ("lengths", v1)] : List (Str × V)) := by
  have h0 : ¬ (("both" : Str) = "lengths") := by decide +kernel
  simp [putF, h0]
theorem bini_2 (v0 v1 v2 : V) : putF ("old_chunked" : Str) v2 ([("both", v0), ("lengths", v1)] : List (Str × V)) = ([("both", v0), ("lengths", v1), ("old_chunked", v2)] : List (Str × V)) := by
  have h0 : ¬ (("both" : Str) = "old_chunked") := by decide +kernel
  have h1 : ¬ (("lengths" : Str) = "old_chunked") := by decide +kernel
  simp [putF, h0, h1]
theorem bini_3 (v0 v1 v2 v3 : V) : putF ("keep_old" : Str) v3 ([("both", v0), ("lengths", v1), ("old_chunked", v2)] : List (Str × V)) = ([("both", v0), ("lengths", v1), ("old_chunked", v2), ("keep_old", v3)] : List (Str × V)) := by
  have h0 : ¬ (("both" : Str) = "keep_old") := by decide +kernel
  have h1 : ¬ (("lengths" : Str) = "keep_old") := by decide +kernel
  have h2 : ¬ (("old_chunked" : Str) = "keep_old") := by decide +kernel
  simp [putF, h0, h1, h2]
theorem bini_4 (v0 v1 v2 v3 v4 : V) : putF ("most_line" : Str) v4 ([("both", v0), ("lengths", v1), ("old_chunked", v2), ("keep_old", v3)] : List (Str × V)) = ([("both", v0), ("lengths", v1), ("old_chunked", v2), ("keep_old", v3), ("most_line", v4)] : List (Str × V)) := by
  have h0 : ¬ (("both" : Str) = "most_line") := by decide +kernel
  have h1 : ¬ (("lengths" : Str) = "most_line") := by decide +kernel
  have h2 : ¬ (("old_chunked" : Str) = "most_line") := by decide +kernel
  have h3 : ¬ (("keep_old" : Str) = "most_line") := by decide +kernel
  simp [putF, h0, h1, h2, h3]
theorem bini_5 (v0 v1 v2 v3 v4 v5 : V) : putF ("most_fields" : Str) v5 ([("both", v0), ("lengths", v1), ("old_chunked", v2), ("keep_old", v3), ("most_line", v4)] : List (Str × V)) = ([("both", v0), ("lengths", v1), ("old_chunked", v2), ("keep_old", v3), ("most_line", v4), ("most_fields", v5)] : List (Str × V)) := by
  have h0 : ¬ (("both" : Str) = "most_fields") := by decide +kernel
  have h1 : ¬ (("lengths" : Str) = "most_fields") := by decide +kernel
  have h2 : ¬ (("old_chunked" : Str) = "most_fields") := by decide +kernel
  have h3 : ¬ (("keep_old" : Str) = "most_fields") := by decide +kernel
  have h4 : ¬ (("most_line" : Str) = "most_fields") := by decide +kernel
  simp [putF, h0, h1, h2, h3, h4]
theorem bini_6 (v0 v1 v2 v3 v4 v5 v6 : V) : putF ("most_digits" : Str) v6 ([("both", v0), ("lengths", v1), ("old_chunked", v2), ("keep_old", v3), ("most_line", v4), ("most_fields", v5)] : List (Str × V)) = ([("both", v0), ("lengths", v1), ("old_chunked", v2), ("keep_old", v3), ("most_line", v4), ("most_fields", v5), ("most_digits", v6)] : List (Str × V)) := by
  have h0 : ¬ (("both" : Str) = "most_digits") := by decide +kernel
  have h1 : ¬ (("lengths" : Str) = "most_digits") := by decide +kernel
  have h2 : ¬ (("old_chunked" : Str) = "most_digits") := by decide +kernel
  have h3 : ¬ (("keep_old" : Str) = "most_digits") := by decide +kernel
  have h4 : ¬ (("most_line" : Str) = "most_digits") := by decide +kernel
  have h5 : ¬ (("most_fields" : Str) = "most_digits") := by decide +kernel
  simp [putF, h0, h1, h2, h3, h4, h5]

/-! ### classes made with keywords -/
structure HasIK (P : Program) (w : World) (K : PySem.W.Frag) (mg : Str → Option Value) (base : Heap) (x : Str) (C : Addr) (k n : Nat) (ks : List Str) (gV : List V → List V → List V) (sp : Sp) : Prop where
  ex : ∃ f fd ps g, mg x = some (.ref C) ∧ Mk K C f ∧ KBn K fd ps n ks g gV ∧ FnOk P w K mg base CX0 k f fd ps sp
structure HasI0 (P : Program) (w : World) (K : PySem.W.Frag) (mg : Str → Option Value) (base : Heap) (x : Str) (C : Addr) (k : Nat) (dvs : List V) (sp : Sp) : Prop where
  ex : ∃ f fd ps ds, mg x = some (.ref C) ∧ Mk K C f ∧ Binds K fd ps ds ∧ Vals dvs ds ∧ FnOk P w K mg base CX0 k f fd ps sp
abbrev EF : XK := fun _ _ _ => False
section
variable {X : Cx} {k n : Nat} {C : Addr} {ks : List Str} {gV : List V → List V → List V} {dvs : List V} {sp : Sp} {x : Str} {q pos : Pos} {e : Expr} {es : List Expr} {t tk : TA} {kws : List Keyword}
theorem pe_mk0 (h : HasI0 X.prog X.w X.K X.mg X.base x C k dvs sp) (hr : Room (k + 1) X.A) (hg : Gl X x := by rfl) (hdb : (x == ("__debug__" : Str)) = false := by decide) :
    PE X (.Call (.Name x q) [] [] pos) (tMake C sp dvs EF tNil) := by
  obtain ⟨f, fd, ps, ds, hm, M, hb, hd, F⟩ := h.ex
  exact pe_make0 M F hr hg hm hb hd (fun _ _ _ _ _ _ _ z => z.elim) hdb
theorem pe_mkK0 (h : HasIK X.prog X.w X.K X.mg X.base x C k 1 ks gV sp) (hr : Room (k + 1) X.A) (hkw : PK X kws tk) (hg : Gl X x := by rfl)
    (hall : (backToKw pos (keywordEach kws X.env)).all (·.1.isSome) = true := by rfl) (hks : (backToKw pos (keywordEach kws X.env)).filterMap (·.1) = ks := by rfl) (hdb : (x == ("__debug__" : Str)) = false := by decide)
    (hpl : ((backTo pos (starEach [] X.env)).any (·.1) || (backToKw pos (keywordEach kws X.env)).any (·.1.isNone)) = false := by rfl) :
    PE X (.Call (.Name x q) [] kws pos) (tMakeK C 0 ks.length sp gV EF tNil tk) := by
  obtain ⟨f, fd, ps, g, hm, M, hb, F⟩ := h.ex
  exact pe_makeK0 M F hr hg hm hb (fun _ _ _ _ _ _ _ z => z.elim) hkw hall hks hdb hpl
theorem pe_mkK (h : HasIK X.prog X.w X.K X.mg X.base x C k (n + 1) ks gV sp) (hr : Room (k + 1) X.A) (ha : PA X (e :: es) t) (hkw : PK X kws tk) (hg : Gl X x := by rfl)
    (hall : (backToKw pos (keywordEach kws X.env)).all (·.1.isSome) = true := by rfl) (hks : (backToKw pos (keywordEach kws X.env)).filterMap (·.1) = ks := by rfl) (hdb : (x == ("__debug__" : Str)) = false := by decide)
    (he : starEach (e :: es) X.env = (false, eval e X.env) :: starEach es X.env := by rfl) (hpl : ((backTo pos (starEach (e :: es) X.env)).any (·.1) || (backToKw pos (keywordEach kws X.env)).any (·.1.isNone)) = false := by rfl) :
    PE X (.Call (.Name x q) (e :: es) kws pos) (tMakeK C n ks.length sp gV EF t tk) := by
  obtain ⟨f, fd, ps, g, hm, M, hb, F⟩ := h.ex
  exact pe_makeK M F hr hg hm hb (fun _ _ _ _ _ _ _ z => z.elim) ha hkw hall hks hdb he hpl
end
section
variable {P : Program} {w : World} {K : PySem.W.Frag} {mg : Str → Option Value} {base : Heap} {A : Adr}
/-! ### is_within, is_one_of, Book -/
def sp_is_within : Sp := fun vs H Q _ => ∃ i l m : Int, vs = [.int i, .int l, .int m] ∧ l ≤ i ∧ i ≤ m ∧ Q (.bl true) H
abbrev N_is_within : List Str := ["thing", "least", "most"]
theorem sc_is_within : FnScope N_is_within ["thing", "least", "most"] (defScope s_is_within) := ⟨rfl, rfl, rfl, by decide +kernel, rfl, by decide +kernel, by decide +kernel⟩
theorem h_is_within (T : Txt K w mg A) : Has CX0 P w K mg base "is_within" 2 ["thing", "least", "most"] sp_is_within := by
  refine has0 (k := 1) T.d_is_within sc_is_within (fun _ _ _ _ _ _ us hl => match us, hl with | [_, _, _], _ => rfl) (fun vs H Q E h => ?_) (fun f cdv A0 outer s H vs Q E hr h => ?_)
  · obtain ⟨i, l, m, rfl, _⟩ := h
    rfl
  · obtain ⟨i, l, m, rfl, h1, h2, k⟩ := h
    refine ⟨_, ((pss_one (ps_ret (pe_and (pe_fn (h_is_integer T) (hr.mono (by decide)) paN (pa_cons (pv 0) pa_nil)) (pe_one (pe_chain op_le op_le (pv 1) (pv 0) (pv 2))))))), ?_⟩
    refine ⟨_, rfl, i, rfl, true, rfl, iteT ?_⟩
    refine ⟨_, rfl, _, rfl, _, _, rfl, rfl, true, congrArg V.bl (decide_eq_true h1), iteT ?_⟩
    refine ⟨_, rfl, _, _, rfl, rfl, ?_⟩
    show Q (V.bl (decide (i ≤ m))) H
    rw [decide_eq_true h2]
    exact k
def sp_is_one_of : Sp := fun vs H Q _ => ∃ (z : Str) (t : Addr) (a b : Str), vs = [.str z, .ref t] ∧ H t = some (.tup [.str a, .str b]) ∧ (z = a ∨ z = b) ∧ Q (.bl true) H
abbrev N_is_one_of : List Str := ["thing", "words"]
theorem sc_is_one_of : FnScope N_is_one_of ["thing", "words"] (defScope s_is_one_of) := ⟨rfl, rfl, rfl, by decide +kernel, rfl, by decide +kernel, by decide +kernel⟩
theorem h_is_one_of (T : Txt K w mg A) : Has CX0 P w K mg base "is_one_of" 1 ["thing", "words"] sp_is_one_of := by
  refine has0 (k := 0) T.d_is_one_of sc_is_one_of (fun _ _ _ _ _ _ us hl => match us, hl with | [_, _], _ => rfl) (fun vs H Q E h => ?_) (fun f cdv A0 outer s H vs Q E hr h => ?_)
  · obtain ⟨z, t, a, b, rfl, _⟩ := h
    rfl
  · obtain ⟨z, t, a, b, rfl, ht, hz, k⟩ := h
    refine ⟨_, ((pss_one (ps_ret (pe_and (pe_callB call_isi (by rfl) T.b_isinstance (by decide +kernel) (pa_cons (pv 0) (pa_cons (pe_bltn (v := .ty "str") rfl T.b_str (by decide +kernel) rfl) pa_nil))) (pe_one (pe_cmpR op_in_seq (pv 0) (pv 1) (by rfl))))))), ?_⟩
    refine ⟨_, rfl, _, _, _, _, true, rfl, .ty _, .base (.str z), kit_ty (by decide +kernel), true, rfl, iteT ?_⟩
    refine ⟨_, rfl, _, rfl, t, _, rfl, Or.inr (SqT.of ht), rfl, rfl, ?_⟩
    rw [in2, decide_eq_true hz]
    exact k
structure BkIn (b : Bk) : Prop where
  ok : BkOk b
  w1 : b.both = "refuse" ∨ b.both = "chunked"
  w2 : b.lengths = "refuse" ∨ b.lengths = "equal"
  w3 : b.old = "refuse" ∨ b.old = "accept"
def bvs (b : Bk) : List V := [.str b.both, .str b.lengths, .str b.old, .bl b.keep, .int b.line, .int b.fields, .int b.digits]
def sp_Book_init : Sp := fun vs H Q _ => ∃ (a : Addr) (b : Bk) (dx : Addr), vs = .ref a :: bvs b ∧ BkIn b ∧ H a = some (.ins A.BK dx []) ∧ ∀ H', H' a = some (.ins A.BK dx (bfs b)) → (∀ c o, c ≠ a → H c = some o → H' c = some o) → Q .non H'
abbrev N_Book_init : List Str := ["self", "both", "lengths", "old_chunked", "keep_old", "most_line", "most_fields", "most_digits"]
theorem sc_Book_init : FnScope N_Book_init ["self", "both", "lengths", "old_chunked", "keep_old", "most_line", "most_fields", "most_digits"] (defScope s_Book_init) := ⟨rfl, rfl, rfl, by decide +kernel, rfl, by decide +kernel, by decide +kernel⟩
theorem book_ok (T : Txt K w mg A) {f : Addr} {fd : FuncData} {kws : List (Str × V)} (F : FunD K "__init__" "Book.__init__" (defArgs s_Book_init) (defBody s_Book_init) (defScope s_Book_init) [] kws f fd) :
    FnOk P w K mg base CX0 3 f fd ["self", "both", "lengths", "old_chunked", "keep_old", "most_line", "most_fields", "most_digits"] (sp_Book_init (A := A)) := by
  refine F.ok (k := 2) sc_Book_init (fun vs H Q E h => ?_) fun cdv A0 outer s H vs Q E hr h => ?_
  · obtain ⟨a, b, dx, rfl, _⟩ := h
    rfl
  · obtain ⟨a, b, dx, rfl, bi, ha, k⟩ := h
    have G : PSs (cxOf CX0 P w K mg base N_Book_init "Book.__init__" (defScope s_Book_init) f cdv A0 outer s H E).nox (defBody s_Book_init) _ := ((pss_cons (ps_if (pt_not (pt_val (pe_fn (h_is_one_of T) (hr.mono (by decide)) paN (pa_cons (pv 1) (pa_cons (pe_tup (pa_cons (C8.pe_gc rfl T.c_REFUSE) (pa_cons (C8.pe_gc rfl T.c_CHUNKED_books) pa_nil))) pa_nil))))) (pss_one ps_never) pss_nil)
      (pss_cons (ps_if (pt_not (pt_val (pe_fn (h_is_one_of T) (hr.mono (by decide)) paN (pa_cons (pv 2) (pa_cons (pe_tup (pa_cons (C8.pe_gc rfl T.c_REFUSE) (pa_cons (C8.pe_gc rfl T.c_EQUAL) pa_nil))) pa_nil))))) (pss_one ps_never) pss_nil)
      (pss_cons (ps_if (pt_not (pt_val (pe_fn (h_is_one_of T) (hr.mono (by decide)) paN (pa_cons (pv 3) (pa_cons (pe_tup (pa_cons (C8.pe_gc rfl T.c_REFUSE) (pa_cons (C8.pe_gc rfl T.c_ACCEPT) pa_nil))) pa_nil))))) (pss_one ps_never) pss_nil)
      (pss_cons (ps_if (pt_not (pt_val (pe_callB call_isi (by rfl) T.b_isinstance (by decide +kernel) (pa_cons (pv 4) (pa_cons (pe_bltn (v := .ty "bool") rfl T.b_bool (by decide +kernel) rfl) pa_nil))))) (pss_one ps_never) pss_nil)
      (pss_cons (ps_if (pt_not (pt_val (pe_fn (h_is_within T) (hr.mono (by decide)) paN (pa_cons (pv 5) (pa_cons pe_int (pa_cons pe_int pa_nil)))))) (pss_one ps_never) pss_nil)
      (pss_cons (ps_if (pt_not (pt_val (pe_fn (h_is_within T) (hr.mono (by decide)) paN (pa_cons (pv 6) (pa_cons pe_int (pa_cons pe_int pa_nil)))))) (pss_one ps_never) pss_nil)
      (pss_cons (ps_if (pt_not (pt_val (pe_fn (h_is_within T) (hr.mono (by decide)) paN (pa_cons (pv 7) (pa_cons pe_int (pa_cons pe_int pa_nil)))))) (pss_one ps_never) pss_nil)
      (pss_cons (ps_fld (pv 0) (pv 1) rfl)
      (pss_cons (ps_fld (pv 0) (pv 2) rfl)
      (pss_cons (ps_fld (pv 0) (pv 3) rfl)
      (pss_cons (ps_fld (pv 0) (pv 4) rfl)
      (pss_cons (ps_fld (pv 0) (pv 5) rfl)
      (pss_cons (ps_fld (pv 0) (pv 6) rfl)
      (pss_one (ps_fld (pv 0) (pv 7) rfl))))))))))))))))
    refine ⟨_, G.nox, ?_⟩
    refine ⟨_, rfl, by show 2 ≤ sizeLine; decide, fun q1 hq1 => ⟨_, q1, _, _, rfl, upd_same, bi.w1, true, rfl, iteF ?_⟩⟩
    refine ⟨_, rfl, by show 2 ≤ sizeLine; decide, fun q2 hq2 => ⟨_, q2, _, _, rfl, upd_same, bi.w2, true, rfl, iteF ?_⟩⟩
    refine ⟨_, rfl, by show 2 ≤ sizeLine; decide, fun q3 hq3 => ⟨_, q3, _, _, rfl, upd_same, bi.w3, true, rfl, iteF ?_⟩⟩
    refine ⟨_, rfl, _, _, _, _, true, rfl, .ty _, .base (.bl _), kit_ty (by decide +kernel), true, rfl, iteF ?_⟩
    refine ⟨_, rfl, _, _, _, rfl, bi.ok.l1, bi.ok.l2, true, rfl, iteF ?_⟩
    refine ⟨_, rfl, _, _, _, rfl, bi.ok.f1, bi.ok.f2, true, rfl, iteF ?_⟩
    refine ⟨_, rfl, _, _, _, rfl, bi.ok.d1, bi.ok.d2, true, rfl, iteF ?_⟩
    have ex : Ex H (upd (upd (upd H q1 (.tup [.str "refuse", .str "chunked"])) q2 (.tup [.str "refuse", .str "equal"])) q3 (.tup [.str "refuse", .str "accept"])) := ((Ex.new hq1).tr (Ex.new hq2)).tr (Ex.new hq3)
    have a0 := ex _ _ ha
    generalize upd (upd (upd H q1 (.tup [.str "refuse", .str "chunked"])) q2 (.tup [.str "refuse", .str "equal"])) q3 (.tup [.str "refuse", .str "accept"]) = H0 at *
    refine ⟨_, rfl, _, rfl, a, A.BK, dx, _, rfl, a0, T.cl_Book, T.n_Book_both, (by show 0 < 1000; decide), ?_⟩
    rw [bini_0]
    refine ⟨_, rfl, _, rfl, a, A.BK, dx, _, rfl, upd_same, T.cl_Book, T.n_Book_lengths, (by show 1 < 1000; decide), ?_⟩
    rw [bini_1]
    refine ⟨_, rfl, _, rfl, a, A.BK, dx, _, rfl, upd_same, T.cl_Book, T.n_Book_old_chunked, (by show 2 < 1000; decide), ?_⟩
    rw [bini_2]
    refine ⟨_, rfl, _, rfl, a, A.BK, dx, _, rfl, upd_same, T.cl_Book, T.n_Book_keep_old, (by show 3 < 1000; decide), ?_⟩
    rw [bini_3]
    refine ⟨_, rfl, _, rfl, a, A.BK, dx, _, rfl, upd_same, T.cl_Book, T.n_Book_most_line, (by show 4 < 1000; decide), ?_⟩
    rw [bini_4]
    refine ⟨_, rfl, _, rfl, a, A.BK, dx, _, rfl, upd_same, T.cl_Book, T.n_Book_most_fields, (by show 5 < 1000; decide), ?_⟩
    rw [bini_5]
    refine ⟨_, rfl, _, rfl, a, A.BK, dx, _, rfl, upd_same, T.cl_Book, T.n_Book_most_digits, (by show 6 < 1000; decide), ?_⟩
    rw [bini_6]
    refine k _ upd_same (fun c o hc ho => ?_)
    rw [upd_ne hc, upd_ne hc, upd_ne hc, upd_ne hc, upd_ne hc, upd_ne hc, upd_ne hc]
    exact ex _ _ ho
abbrev bdef : List V := [.str "refuse", .str "refuse", .str "refuse", .bl true, .int 100, .int 16, .int 6]
theorem hi_Book0 (T : Txt K w mg A) : HasI0 P w K mg base "Book" A.BK 3 bdef (sp_Book_init (A := A)) := by
  obtain ⟨f, fd, M, F⟩ := T.d_Book_init.ex
  obtain ⟨ds, hv, B⟩ := F.binds0 (ps := ["self", "both", "lengths", "old_chunked", "keep_old", "most_line", "most_fields", "most_digits"]) 1 (by simp) rfl (fun D doc pm an cdv ct us ks l1 l2 => by
    match us, l1, ks, l2 with
    | [u], _, [a, b, c, d, e, f, g], _ => exact ⟨_, _, _, _, _, _, rfl, rfl, ⟨_, _, _, _, _, _, rfl, rfl, ⟨_, _, _, _, _, _, rfl, rfl, ⟨_, _, _, _, _, _, rfl, rfl, ⟨_, _, _, _, _, _, rfl, rfl, ⟨_, _, _, _, _, _, rfl, rfl, ⟨_, _, _, _, _, _, rfl, rfl, rfl⟩⟩⟩⟩⟩⟩⟩)
  exact ⟨f, fd, _, ds, T.g_Book, M, B, hv, book_ok T F⟩
theorem hi_Book3 (T : Txt K w mg A) : HasIK P w K mg base "Book" A.BK 3 1 ["most_line", "most_fields", "most_digits"] (fun vs zs => vs ++ [.str "refuse", .str "refuse", .str "refuse", .bl true] ++ zs) (sp_Book_init (A := A)) := by
  obtain ⟨f, fd, M, F⟩ := T.d_Book_init.ex
  obtain ⟨mv, B⟩ := F.kbinds0 (ps := ["self", "both", "lengths", "old_chunked", "keep_old", "most_line", "most_fields", "most_digits"]) 1 ["most_line", "most_fields", "most_digits"] [("both", .str "refuse"), ("lengths", .str "refuse"), ("old_chunked", .str "refuse"), ("keep_old", .bl true)]
    (fun us mv ws => us ++ mv ++ ws) (by simp) (fun q hq => by simp only [List.mem_cons, List.not_mem_nil, or_false] at hq ⊢; rcases hq with rfl | rfl | rfl | rfl <;> simp) (fun r1 r2 r3 => (vals_app (vals_app r1 r2) r3)) (fun D doc pm an cdv ct us mv ws l1 l2 l3 => by
    match us, l1, mv, l2, ws, l3 with
    | [u], _, [a, b, c, d], _, [e, f, g], _ => exact ⟨_, _, _, _, _, _, rfl, rfl, ⟨_, _, _, _, _, _, rfl, rfl, ⟨_, _, _, _, _, _, rfl, rfl, ⟨_, _, _, _, _, _, rfl, rfl, rfl⟩⟩⟩⟩)
  exact ⟨f, fd, _, _, T.g_Book, M, B, book_ok T F⟩
theorem hi_Book5 (T : Txt K w mg A) : HasIK P w K mg base "Book" A.BK 3 1 ["both", "lengths", "old_chunked", "keep_old", "most_line"] (fun vs zs => vs ++ zs ++ [.int 16, .int 6]) (sp_Book_init (A := A)) := by
  obtain ⟨f, fd, M, F⟩ := T.d_Book_init.ex
  obtain ⟨mv, B⟩ := F.kbinds0 (ps := ["self", "both", "lengths", "old_chunked", "keep_old", "most_line", "most_fields", "most_digits"]) 1 ["both", "lengths", "old_chunked", "keep_old", "most_line"] [("most_fields", .int 16), ("most_digits", .int 6)]
    (fun us mv ws => us ++ ws ++ mv) (by simp) (fun q hq => by simp only [List.mem_cons, List.not_mem_nil, or_false] at hq ⊢; rcases hq with rfl | rfl <;> simp) (fun r1 r2 r3 => (vals_app (vals_app r1 r3) r2)) (fun D doc pm an cdv ct us mv ws l1 l2 l3 => by
    match us, l1, mv, l2, ws, l3 with
    | [u], _, [a, b], _, [c, d, e, f, g], _ => exact ⟨_, _, _, _, _, _, rfl, rfl, ⟨_, _, _, _, _, _, rfl, rfl, rfl⟩⟩)
  exact ⟨f, fd, _, _, T.g_Book, M, B, book_ok T F⟩
/-! ### Reader.__init__ -/
def rs0 : RS := ⟨"start", "", 0, [], false, .no, [], 0, [], ⟨"", false, false⟩, false⟩
def sp_Reader_init : Sp := fun vs H Q _ => ∃ (a : Addr) (kd : Str) (pb : Addr) (b : Bk) (dx : Addr), vs = [.ref a, .str kd, .ref pb] ∧ (kd = REQS ∨ kd = RESPS) ∧ BookAt A H pb b ∧ H a = some (.ins A.RD dx []) ∧ ∀ R H', RdP A H' a kd R b rs0 → (∀ c o, c ≠ a → H c = some o → H' c = some o) → (H R.ln = none ∧ H R.fl = none ∧ H R.ex = none) → Q .non H'
abbrev N_Reader_init : List Str := ["self", "kind", "book"]
theorem sc_Reader_init : FnScope N_Reader_init ["self", "kind", "book"] (defScope s_Reader_init) := ⟨rfl, rfl, rfl, by decide +kernel, rfl, by decide +kernel, by decide +kernel⟩
theorem Keep.free {a x : Addr} {H H' : Hp} {o : HO} (ha : H' a = some o) (k : ∀ c o, c ≠ a → H c = some o → H' c = some o) (hx : H' x = none) : H x = none := by
  cases q : H x with
  | none => rfl
  | some u =>
    have e : x ≠ a := fun z => by rw [z, ha] at hx; cases hx
    rw [k x u e q] at hx
    cases hx
theorem hi_Reader (T : Txt K w mg A) : HasIK P w K mg base "Reader" A.RD 3 2 ["book"] (fun vs zs => vs ++ zs) (sp_Reader_init (A := A)) := by
  obtain ⟨f, fd, M, F⟩ := T.d_Reader_init.ex
  refine ⟨f, fd, ["self", "kind", "book"], _, T.g_Reader, M, kb_of F (by simp) (fun D doc pm an cdv ct us ws l1 l2 => by
    match us, l1, ws, l2 with
    | [_, _], _, [_], _ => rfl), F.ok (k := 2) sc_Reader_init (fun vs H Q E h => ?_) fun cdv A0 outer s H vs Q E hr h => ?_⟩
  · obtain ⟨a, kd, pb, b, dx, rfl, _⟩ := h
    rfl
  · obtain ⟨a, kd, pb, b, dx, rfl, hkd, ⟨bd, hb⟩, ha, k⟩ := h
    have G : PSs (cxOf CX0 P w K mg base N_Reader_init "Reader.__init__" (defScope s_Reader_init) f cdv A0 outer s H E).nox (defBody s_Reader_init) _ := ((pss_cons (ps_if (PW.pt (pw_or (pt_not (pt_val (pe_callB call_isi (by rfl) T.b_isinstance (by decide +kernel) (pa_cons (pv 1) (pa_cons (pe_bltn (v := .ty "str") rfl T.b_str (by decide +kernel) rfl) pa_nil))))) (pw_or1 (pt_cmpR op_notIn_seq (pv 1) (pe_tup (pa_cons (C8.pe_gc rfl T.c_REQUESTS) (pa_cons (C8.pe_gc rfl T.c_RESPONSES) pa_nil))) (by rfl))))) (pss_one ps_never) pss_nil)
      (pss_cons (ps_fld (pv 0) (pe_fn (h_book_of T) (hr.mono (by decide)) paN (pa_cons (pv 2) pa_nil)) rfl)
      (pss_cons (ps_fld (pv 0) (pv 1) rfl)
      (pss_cons (ps_fld (pv 0) (C8.pe_gc rfl T.c_START) rfl)
      (pss_cons (ps_fld (pv 0) (C8.pe_gc rfl T.c_NONE) rfl)
      (pss_cons (ps_fld (pv 0) pe_int rfl)
      (pss_cons (ps_fld (pv 0) (pe_lst pa_nil) rfl)
      (pss_cons (ps_fld (pv 0) pe_bl rfl)
      (pss_cons (ps_fld (pv 0) (pe_tup pa_nil) rfl)
      (pss_cons (ps_fld (pv 0) (pe_lst pa_nil) rfl)
      (pss_cons (ps_fld (pv 0) pe_int rfl)
      (pss_cons (ps_fld (pv 0) (pe_lst pa_nil) rfl)
      (pss_cons (ps_fld (pv 0) (pe_mkI (hi_Message T) (hr.mono (by decide)) (pa_cons pe_str (pa_cons pe_bl (pa_cons pe_bl pa_nil)))) rfl)
      (pss_cons (ps_fld (pv 0) pe_bl rfl)
      (pss_cons (ps_fld (pv 0) pe_bl rfl)
      (pss_one (ps_fld (pv 0) pe_bl rfl))))))))))))))))))
    refine ⟨_, G.nox, ?_⟩
    refine ⟨_, rfl, _, _, _, _, true, rfl, .ty _, .base (.str kd), kit_ty (by decide +kernel), true, rfl, iteF ?_⟩
    refine ⟨_, rfl, by show 2 ≤ sizeLine; decide, fun q hq => ⟨q, _, rfl, Or.inr (SqT.of upd_same), rfl, rfl, _, rfl, ?_⟩⟩
    have ei := in2 kd "requests" "responses"
    have ei2 : (if true = true then !inV (.str kd) [.str "requests", .str "responses"] else inV (.str kd) [.str "requests", .str "responses"]) = false := by
      have : inV (.str kd) [.str "requests", .str "responses"] = true := by
        have e2 : (if false = true then !inV (.str kd) [.str "requests", .str "responses"] else inV (.str kd) [.str "requests", .str "responses"]) = inV (.str kd) [.str "requests", .str "responses"] := rfl
        rw [← e2, ei]
        exact decide_eq_true hkd
      rw [this]
      rfl
    rw [ei2]
    refine iteF ?_
    have ab : pb ≠ a := fun z => by
      rw [z, ha] at hb
      have := (congrArg (fun o : Option HO => match o with | some (.ins _ _ fs) => fs.length | _ => 0) hb)
      exact absurd this (by show (0 : Nat) ≠ 7; decide)
    have k0 : ∀ c o, c ≠ a → H c = some o → (upd H q (.tup [.str "requests", .str "responses"])) c = some o := fun c o _ ho => (Ex.new hq) _ _ ho
    have a0 : (upd H q (.tup [.str "requests", .str "responses"])) a = some (.ins A.RD dx []) := (Ex.new hq) _ _ ha
    generalize upd H q (.tup [.str "requests", .str "responses"]) = H0 at *
    refine ⟨_, rfl, pb, b, rfl, ⟨bd, k0 _ _ ab hb⟩, _, rfl, a, A.RD, dx, _, rfl, a0, T.cl_Reader, T.n_Reader_book, (by show 0 < 1000; decide), ?_⟩
    rw [rini_0]
    have a1 := @upd_same H0 a (.ins A.RD dx [("book", .ref pb)])
    have k1 : ∀ c o, c ≠ a → H c = some o → (upd H0 a (.ins A.RD dx [("book", .ref pb)])) c = some o := fun c o hc ho => (upd_ne hc).trans (k0 c o hc ho)
    generalize upd H0 a (.ins A.RD dx [("book", .ref pb)]) = H1 at *
    refine ⟨_, rfl, _, rfl, a, A.RD, dx, _, rfl, a1, T.cl_Reader, T.n_Reader_kind, (by show 1 < 1000; decide), ?_⟩
    rw [rini_1]
    have a2 := @upd_same H1 a (.ins A.RD dx [("book", .ref pb), ("kind", .str kd)])
    have k2 : ∀ c o, c ≠ a → H c = some o → (upd H1 a (.ins A.RD dx [("book", .ref pb), ("kind", .str kd)])) c = some o := fun c o hc ho => (upd_ne hc).trans (k1 c o hc ho)
    generalize upd H1 a (.ins A.RD dx [("book", .ref pb), ("kind", .str kd)]) = H2 at *
    refine ⟨_, rfl, a, A.RD, dx, _, rfl, a2, T.cl_Reader, T.n_Reader_now, (by show 2 < 1000; decide), ?_⟩
    rw [rini_2]
    have a3 := @upd_same H2 a (.ins A.RD dx [("book", .ref pb), ("kind", .str kd), ("now", .str "start")])
    have k3 : ∀ c o, c ≠ a → H c = some o → (upd H2 a (.ins A.RD dx [("book", .ref pb), ("kind", .str kd), ("now", .str "start")])) c = some o := fun c o hc ho => (upd_ne hc).trans (k2 c o hc ho)
    generalize upd H2 a (.ins A.RD dx [("book", .ref pb), ("kind", .str kd), ("now", .str "start")]) = H3 at *
    refine ⟨_, rfl, a, A.RD, dx, _, rfl, a3, T.cl_Reader, T.n_Reader_part, (by show 3 < 1000; decide), ?_⟩
    rw [rini_3]
    have a4 := @upd_same H3 a (.ins A.RD dx [("book", .ref pb), ("kind", .str kd), ("now", .str "start"), ("part", .str "")])
    have k4 : ∀ c o, c ≠ a → H c = some o → (upd H3 a (.ins A.RD dx [("book", .ref pb), ("kind", .str kd), ("now", .str "start"), ("part", .str "")])) c = some o := fun c o hc ho => (upd_ne hc).trans (k3 c o hc ho)
    generalize upd H3 a (.ins A.RD dx [("book", .ref pb), ("kind", .str kd), ("now", .str "start"), ("part", .str "")]) = H4 at *
    refine ⟨_, rfl, a, A.RD, dx, _, rfl, a4, T.cl_Reader, T.n_Reader_count, (by show 4 < 1000; decide), ?_⟩
    rw [rini_4]
    have a5 := @upd_same H4 a (.ins A.RD dx [("book", .ref pb), ("kind", .str kd), ("now", .str "start"), ("part", .str ""), ("count", .int 0)])
    have k5 : ∀ c o, c ≠ a → H c = some o → (upd H4 a (.ins A.RD dx [("book", .ref pb), ("kind", .str kd), ("now", .str "start"), ("part", .str ""), ("count", .int 0)])) c = some o := fun c o hc ho => (upd_ne hc).trans (k4 c o hc ho)
    generalize upd H4 a (.ins A.RD dx [("book", .ref pb), ("kind", .str kd), ("now", .str "start"), ("part", .str ""), ("count", .int 0)]) = H5 at *
    refine ⟨Nat.zero_le _, fun l1 hl1 => ?_⟩
    have fl1 := Keep.free a5 k5 hl1
    have a6 := (Ex.new (o := .lst []) hl1) _ _ a5
    have k6 : ∀ c o, c ≠ a → H c = some o → (upd H5 l1 (.lst [])) c = some o := fun c o hc ho => (Ex.new hl1) _ _ (k5 c o hc ho)
    have gl1 : (upd H5 l1 (.lst [])) l1 = some (.lst []) := upd_same
    have nl1 : l1 ≠ a := fun z => by rw [z, a5] at hl1; cases hl1
    generalize upd H5 l1 (.lst []) = H6 at *
    refine ⟨_, rfl, a, A.RD, dx, _, rfl, a6, T.cl_Reader, T.n_Reader_line, (by show 5 < 1000; decide), ?_⟩
    rw [rini_5]
    replace gl1 := (upd_ne (o := .ins A.RD dx [("book", .ref pb), ("kind", .str kd), ("now", .str "start"), ("part", .str ""), ("count", .int 0), ("line", .ref l1)]) nl1).trans gl1
    have a7 := @upd_same H6 a (.ins A.RD dx [("book", .ref pb), ("kind", .str kd), ("now", .str "start"), ("part", .str ""), ("count", .int 0), ("line", .ref l1)])
    have k7 : ∀ c o, c ≠ a → H c = some o → (upd H6 a (.ins A.RD dx [("book", .ref pb), ("kind", .str kd), ("now", .str "start"), ("part", .str ""), ("count", .int 0), ("line", .ref l1)])) c = some o := fun c o hc ho => (upd_ne hc).trans (k6 c o hc ho)
    generalize upd H6 a (.ins A.RD dx [("book", .ref pb), ("kind", .str kd), ("now", .str "start"), ("part", .str ""), ("count", .int 0), ("line", .ref l1)]) = H7 at *
    refine ⟨_, rfl, a, A.RD, dx, _, rfl, a7, T.cl_Reader, T.n_Reader_is_ending, (by show 6 < 1000; decide), ?_⟩
    rw [rini_6]
    replace gl1 := (upd_ne (o := .ins A.RD dx [("book", .ref pb), ("kind", .str kd), ("now", .str "start"), ("part", .str ""), ("count", .int 0), ("line", .ref l1), ("is_ending", .bl false)]) nl1).trans gl1
    have a8 := @upd_same H7 a (.ins A.RD dx [("book", .ref pb), ("kind", .str kd), ("now", .str "start"), ("part", .str ""), ("count", .int 0), ("line", .ref l1), ("is_ending", .bl false)])
    have k8 : ∀ c o, c ≠ a → H c = some o → (upd H7 a (.ins A.RD dx [("book", .ref pb), ("kind", .str kd), ("now", .str "start"), ("part", .str ""), ("count", .int 0), ("line", .ref l1), ("is_ending", .bl false)])) c = some o := fun c o hc ho => (upd_ne hc).trans (k7 c o hc ho)
    generalize upd H7 a (.ins A.RD dx [("book", .ref pb), ("kind", .str kd), ("now", .str "start"), ("part", .str ""), ("count", .int 0), ("line", .ref l1), ("is_ending", .bl false)]) = H8 at *
    refine ⟨Nat.zero_le _, fun t ht => ?_⟩
    have a9 := (Ex.new (o := .tup []) ht) _ _ a8
    have k9 : ∀ c o, c ≠ a → H c = some o → (upd H8 t (.tup [])) c = some o := fun c o hc ho => (Ex.new ht) _ _ (k8 c o hc ho)
    have gt : (upd H8 t (.tup [])) t = some (.tup []) := upd_same
    have nt : t ≠ a := fun z => by rw [z, a8] at ht; cases ht
    replace gl1 := (Ex.new (o := .tup []) ht) _ _ gl1
    generalize upd H8 t (.tup []) = H9 at *
    refine ⟨_, rfl, a, A.RD, dx, _, rfl, a9, T.cl_Reader, T.n_Reader_start, (by show 7 < 1000; decide), ?_⟩
    rw [rini_7]
    replace gl1 := (upd_ne (o := .ins A.RD dx [("book", .ref pb), ("kind", .str kd), ("now", .str "start"), ("part", .str ""), ("count", .int 0), ("line", .ref l1), ("is_ending", .bl false), ("start", .ref t)]) nl1).trans gl1
    replace gt := (upd_ne (o := .ins A.RD dx [("book", .ref pb), ("kind", .str kd), ("now", .str "start"), ("part", .str ""), ("count", .int 0), ("line", .ref l1), ("is_ending", .bl false), ("start", .ref t)]) nt).trans gt
    have a10 := @upd_same H9 a (.ins A.RD dx [("book", .ref pb), ("kind", .str kd), ("now", .str "start"), ("part", .str ""), ("count", .int 0), ("line", .ref l1), ("is_ending", .bl false), ("start", .ref t)])
    have k10 : ∀ c o, c ≠ a → H c = some o → (upd H9 a (.ins A.RD dx [("book", .ref pb), ("kind", .str kd), ("now", .str "start"), ("part", .str ""), ("count", .int 0), ("line", .ref l1), ("is_ending", .bl false), ("start", .ref t)])) c = some o := fun c o hc ho => (upd_ne hc).trans (k9 c o hc ho)
    generalize upd H9 a (.ins A.RD dx [("book", .ref pb), ("kind", .str kd), ("now", .str "start"), ("part", .str ""), ("count", .int 0), ("line", .ref l1), ("is_ending", .bl false), ("start", .ref t)]) = H10 at *
    refine ⟨Nat.zero_le _, fun l2 hl2 => ?_⟩
    have fl2 := Keep.free a10 k10 hl2
    have a11 := (Ex.new (o := .lst []) hl2) _ _ a10
    have k11 : ∀ c o, c ≠ a → H c = some o → (upd H10 l2 (.lst [])) c = some o := fun c o hc ho => (Ex.new hl2) _ _ (k10 c o hc ho)
    have gl2 : (upd H10 l2 (.lst [])) l2 = some (.lst []) := upd_same
    have nl2 : l2 ≠ a := fun z => by rw [z, a10] at hl2; cases hl2
    have ml2l1 : l1 ≠ l2 := ne_of_none gl1 hl2
    replace gl1 := (Ex.new (o := .lst []) hl2) _ _ gl1
    have ml2t : t ≠ l2 := ne_of_none gt hl2
    replace gt := (Ex.new (o := .lst []) hl2) _ _ gt
    generalize upd H10 l2 (.lst []) = H11 at *
    refine ⟨_, rfl, a, A.RD, dx, _, rfl, a11, T.cl_Reader, T.n_Reader_fields, (by show 8 < 1000; decide), ?_⟩
    rw [rini_8]
    replace gl1 := (upd_ne (o := .ins A.RD dx [("book", .ref pb), ("kind", .str kd), ("now", .str "start"), ("part", .str ""), ("count", .int 0), ("line", .ref l1), ("is_ending", .bl false), ("start", .ref t), ("fields", .ref l2)]) nl1).trans gl1
    replace gt := (upd_ne (o := .ins A.RD dx [("book", .ref pb), ("kind", .str kd), ("now", .str "start"), ("part", .str ""), ("count", .int 0), ("line", .ref l1), ("is_ending", .bl false), ("start", .ref t), ("fields", .ref l2)]) nt).trans gt
    replace gl2 := (upd_ne (o := .ins A.RD dx [("book", .ref pb), ("kind", .str kd), ("now", .str "start"), ("part", .str ""), ("count", .int 0), ("line", .ref l1), ("is_ending", .bl false), ("start", .ref t), ("fields", .ref l2)]) nl2).trans gl2
    have a12 := @upd_same H11 a (.ins A.RD dx [("book", .ref pb), ("kind", .str kd), ("now", .str "start"), ("part", .str ""), ("count", .int 0), ("line", .ref l1), ("is_ending", .bl false), ("start", .ref t), ("fields", .ref l2)])
    have k12 : ∀ c o, c ≠ a → H c = some o → (upd H11 a (.ins A.RD dx [("book", .ref pb), ("kind", .str kd), ("now", .str "start"), ("part", .str ""), ("count", .int 0), ("line", .ref l1), ("is_ending", .bl false), ("start", .ref t), ("fields", .ref l2)])) c = some o := fun c o hc ho => (upd_ne hc).trans (k11 c o hc ho)
    generalize upd H11 a (.ins A.RD dx [("book", .ref pb), ("kind", .str kd), ("now", .str "start"), ("part", .str ""), ("count", .int 0), ("line", .ref l1), ("is_ending", .bl false), ("start", .ref t), ("fields", .ref l2)]) = H12 at *
    refine ⟨_, rfl, a, A.RD, dx, _, rfl, a12, T.cl_Reader, T.n_Reader_left, (by show 9 < 1000; decide), ?_⟩
    rw [rini_9]
    replace gl1 := (upd_ne (o := .ins A.RD dx [("book", .ref pb), ("kind", .str kd), ("now", .str "start"), ("part", .str ""), ("count", .int 0), ("line", .ref l1), ("is_ending", .bl false), ("start", .ref t), ("fields", .ref l2), ("left", .int 0)]) nl1).trans gl1
    replace gt := (upd_ne (o := .ins A.RD dx [("book", .ref pb), ("kind", .str kd), ("now", .str "start"), ("part", .str ""), ("count", .int 0), ("line", .ref l1), ("is_ending", .bl false), ("start", .ref t), ("fields", .ref l2), ("left", .int 0)]) nt).trans gt
    replace gl2 := (upd_ne (o := .ins A.RD dx [("book", .ref pb), ("kind", .str kd), ("now", .str "start"), ("part", .str ""), ("count", .int 0), ("line", .ref l1), ("is_ending", .bl false), ("start", .ref t), ("fields", .ref l2), ("left", .int 0)]) nl2).trans gl2
    have a13 := @upd_same H12 a (.ins A.RD dx [("book", .ref pb), ("kind", .str kd), ("now", .str "start"), ("part", .str ""), ("count", .int 0), ("line", .ref l1), ("is_ending", .bl false), ("start", .ref t), ("fields", .ref l2), ("left", .int 0)])
    have k13 : ∀ c o, c ≠ a → H c = some o → (upd H12 a (.ins A.RD dx [("book", .ref pb), ("kind", .str kd), ("now", .str "start"), ("part", .str ""), ("count", .int 0), ("line", .ref l1), ("is_ending", .bl false), ("start", .ref t), ("fields", .ref l2), ("left", .int 0)])) c = some o := fun c o hc ho => (upd_ne hc).trans (k12 c o hc ho)
    generalize upd H12 a (.ins A.RD dx [("book", .ref pb), ("kind", .str kd), ("now", .str "start"), ("part", .str ""), ("count", .int 0), ("line", .ref l1), ("is_ending", .bl false), ("start", .ref t), ("fields", .ref l2), ("left", .int 0)]) = H13 at *
    refine ⟨Nat.zero_le _, fun l3 hl3 => ?_⟩
    have fl3 := Keep.free a13 k13 hl3
    have a14 := (Ex.new (o := .lst []) hl3) _ _ a13
    have k14 : ∀ c o, c ≠ a → H c = some o → (upd H13 l3 (.lst [])) c = some o := fun c o hc ho => (Ex.new hl3) _ _ (k13 c o hc ho)
    have gl3 : (upd H13 l3 (.lst [])) l3 = some (.lst []) := upd_same
    have nl3 : l3 ≠ a := fun z => by rw [z, a13] at hl3; cases hl3
    have ml3l1 : l1 ≠ l3 := ne_of_none gl1 hl3
    replace gl1 := (Ex.new (o := .lst []) hl3) _ _ gl1
    have ml3t : t ≠ l3 := ne_of_none gt hl3
    replace gt := (Ex.new (o := .lst []) hl3) _ _ gt
    have ml3l2 : l2 ≠ l3 := ne_of_none gl2 hl3
    replace gl2 := (Ex.new (o := .lst []) hl3) _ _ gl2
    generalize upd H13 l3 (.lst []) = H14 at *
    refine ⟨_, rfl, a, A.RD, dx, _, rfl, a14, T.cl_Reader, T.n_Reader_expected, (by show 10 < 1000; decide), ?_⟩
    rw [rini_10]
    replace gl1 := (upd_ne (o := .ins A.RD dx [("book", .ref pb), ("kind", .str kd), ("now", .str "start"), ("part", .str ""), ("count", .int 0), ("line", .ref l1), ("is_ending", .bl false), ("start", .ref t), ("fields", .ref l2), ("left", .int 0), ("expected", .ref l3)]) nl1).trans gl1
    replace gt := (upd_ne (o := .ins A.RD dx [("book", .ref pb), ("kind", .str kd), ("now", .str "start"), ("part", .str ""), ("count", .int 0), ("line", .ref l1), ("is_ending", .bl false), ("start", .ref t), ("fields", .ref l2), ("left", .int 0), ("expected", .ref l3)]) nt).trans gt
    replace gl2 := (upd_ne (o := .ins A.RD dx [("book", .ref pb), ("kind", .str kd), ("now", .str "start"), ("part", .str ""), ("count", .int 0), ("line", .ref l1), ("is_ending", .bl false), ("start", .ref t), ("fields", .ref l2), ("left", .int 0), ("expected", .ref l3)]) nl2).trans gl2
    replace gl3 := (upd_ne (o := .ins A.RD dx [("book", .ref pb), ("kind", .str kd), ("now", .str "start"), ("part", .str ""), ("count", .int 0), ("line", .ref l1), ("is_ending", .bl false), ("start", .ref t), ("fields", .ref l2), ("left", .int 0), ("expected", .ref l3)]) nl3).trans gl3
    have a15 := @upd_same H14 a (.ins A.RD dx [("book", .ref pb), ("kind", .str kd), ("now", .str "start"), ("part", .str ""), ("count", .int 0), ("line", .ref l1), ("is_ending", .bl false), ("start", .ref t), ("fields", .ref l2), ("left", .int 0), ("expected", .ref l3)])
    have k15 : ∀ c o, c ≠ a → H c = some o → (upd H14 a (.ins A.RD dx [("book", .ref pb), ("kind", .str kd), ("now", .str "start"), ("part", .str ""), ("count", .int 0), ("line", .ref l1), ("is_ending", .bl false), ("start", .ref t), ("fields", .ref l2), ("left", .int 0), ("expected", .ref l3)])) c = some o := fun c o hc ho => (upd_ne hc).trans (k14 c o hc ho)
    generalize upd H14 a (.ins A.RD dx [("book", .ref pb), ("kind", .str kd), ("now", .str "start"), ("part", .str ""), ("count", .int 0), ("line", .ref l1), ("is_ending", .bl false), ("start", .ref t), ("fields", .ref l2), ("left", .int 0), ("expected", .ref l3)]) = H15 at *
    refine fun x xd hx hxd hne => ⟨x, ⟨"", false, false⟩, xd, rfl, upd_same, fun H' g1 g2 => ⟨rfl, ?_⟩⟩
    have ex := mk_ex hx hxd g2
    have a16 := ex _ _ a15
    have k16 : ∀ c o, c ≠ a → H c = some o → H' c = some o := fun c o hc ho => ex _ _ (k15 c o hc ho)
    have nx : x ≠ a := fun z => by rw [z, a15] at hx; cases hx
    replace gl1 := ex _ _ gl1
    replace gt := ex _ _ gt
    replace gl2 := ex _ _ gl2
    replace gl3 := ex _ _ gl3
    obtain ⟨H16, rfl⟩ : ∃ z, z = H' := ⟨_, rfl⟩
    refine ⟨_, rfl, a, A.RD, dx, _, rfl, a16, T.cl_Reader, T.n_Reader_message, (by show 11 < 1000; decide), ?_⟩
    rw [rini_11]
    replace gl1 := (upd_ne (o := .ins A.RD dx [("book", .ref pb), ("kind", .str kd), ("now", .str "start"), ("part", .str ""), ("count", .int 0), ("line", .ref l1), ("is_ending", .bl false), ("start", .ref t), ("fields", .ref l2), ("left", .int 0), ("expected", .ref l3), ("message", .ref x)]) nl1).trans gl1
    replace gt := (upd_ne (o := .ins A.RD dx [("book", .ref pb), ("kind", .str kd), ("now", .str "start"), ("part", .str ""), ("count", .int 0), ("line", .ref l1), ("is_ending", .bl false), ("start", .ref t), ("fields", .ref l2), ("left", .int 0), ("expected", .ref l3), ("message", .ref x)]) nt).trans gt
    replace gl2 := (upd_ne (o := .ins A.RD dx [("book", .ref pb), ("kind", .str kd), ("now", .str "start"), ("part", .str ""), ("count", .int 0), ("line", .ref l1), ("is_ending", .bl false), ("start", .ref t), ("fields", .ref l2), ("left", .int 0), ("expected", .ref l3), ("message", .ref x)]) nl2).trans gl2
    replace gl3 := (upd_ne (o := .ins A.RD dx [("book", .ref pb), ("kind", .str kd), ("now", .str "start"), ("part", .str ""), ("count", .int 0), ("line", .ref l1), ("is_ending", .bl false), ("start", .ref t), ("fields", .ref l2), ("left", .int 0), ("expected", .ref l3), ("message", .ref x)]) nl3).trans gl3
    replace g1 := (upd_ne (o := .ins A.RD dx [("book", .ref pb), ("kind", .str kd), ("now", .str "start"), ("part", .str ""), ("count", .int 0), ("line", .ref l1), ("is_ending", .bl false), ("start", .ref t), ("fields", .ref l2), ("left", .int 0), ("expected", .ref l3), ("message", .ref x)]) nx).trans g1
    have a17 := @upd_same H16 a (.ins A.RD dx [("book", .ref pb), ("kind", .str kd), ("now", .str "start"), ("part", .str ""), ("count", .int 0), ("line", .ref l1), ("is_ending", .bl false), ("start", .ref t), ("fields", .ref l2), ("left", .int 0), ("expected", .ref l3), ("message", .ref x)])
    have k17 : ∀ c o, c ≠ a → H c = some o → (upd H16 a (.ins A.RD dx [("book", .ref pb), ("kind", .str kd), ("now", .str "start"), ("part", .str ""), ("count", .int 0), ("line", .ref l1), ("is_ending", .bl false), ("start", .ref t), ("fields", .ref l2), ("left", .int 0), ("expected", .ref l3), ("message", .ref x)])) c = some o := fun c o hc ho => (upd_ne hc).trans (k16 c o hc ho)
    generalize upd H16 a (.ins A.RD dx [("book", .ref pb), ("kind", .str kd), ("now", .str "start"), ("part", .str ""), ("count", .int 0), ("line", .ref l1), ("is_ending", .bl false), ("start", .ref t), ("fields", .ref l2), ("left", .int 0), ("expected", .ref l3), ("message", .ref x)]) = H17 at *
    refine ⟨_, rfl, a, A.RD, dx, _, rfl, a17, T.cl_Reader, T.n_Reader_is_last, (by show 12 < 1000; decide), ?_⟩
    rw [rini_12]
    replace gl1 := (upd_ne (o := .ins A.RD dx [("book", .ref pb), ("kind", .str kd), ("now", .str "start"), ("part", .str ""), ("count", .int 0), ("line", .ref l1), ("is_ending", .bl false), ("start", .ref t), ("fields", .ref l2), ("left", .int 0), ("expected", .ref l3), ("message", .ref x), ("is_last", .bl false)]) nl1).trans gl1
    replace gt := (upd_ne (o := .ins A.RD dx [("book", .ref pb), ("kind", .str kd), ("now", .str "start"), ("part", .str ""), ("count", .int 0), ("line", .ref l1), ("is_ending", .bl false), ("start", .ref t), ("fields", .ref l2), ("left", .int 0), ("expected", .ref l3), ("message", .ref x), ("is_last", .bl false)]) nt).trans gt
    replace gl2 := (upd_ne (o := .ins A.RD dx [("book", .ref pb), ("kind", .str kd), ("now", .str "start"), ("part", .str ""), ("count", .int 0), ("line", .ref l1), ("is_ending", .bl false), ("start", .ref t), ("fields", .ref l2), ("left", .int 0), ("expected", .ref l3), ("message", .ref x), ("is_last", .bl false)]) nl2).trans gl2
    replace gl3 := (upd_ne (o := .ins A.RD dx [("book", .ref pb), ("kind", .str kd), ("now", .str "start"), ("part", .str ""), ("count", .int 0), ("line", .ref l1), ("is_ending", .bl false), ("start", .ref t), ("fields", .ref l2), ("left", .int 0), ("expected", .ref l3), ("message", .ref x), ("is_last", .bl false)]) nl3).trans gl3
    replace g1 := (upd_ne (o := .ins A.RD dx [("book", .ref pb), ("kind", .str kd), ("now", .str "start"), ("part", .str ""), ("count", .int 0), ("line", .ref l1), ("is_ending", .bl false), ("start", .ref t), ("fields", .ref l2), ("left", .int 0), ("expected", .ref l3), ("message", .ref x), ("is_last", .bl false)]) nx).trans g1
    have a18 := @upd_same H17 a (.ins A.RD dx [("book", .ref pb), ("kind", .str kd), ("now", .str "start"), ("part", .str ""), ("count", .int 0), ("line", .ref l1), ("is_ending", .bl false), ("start", .ref t), ("fields", .ref l2), ("left", .int 0), ("expected", .ref l3), ("message", .ref x), ("is_last", .bl false)])
    have k18 : ∀ c o, c ≠ a → H c = some o → (upd H17 a (.ins A.RD dx [("book", .ref pb), ("kind", .str kd), ("now", .str "start"), ("part", .str ""), ("count", .int 0), ("line", .ref l1), ("is_ending", .bl false), ("start", .ref t), ("fields", .ref l2), ("left", .int 0), ("expected", .ref l3), ("message", .ref x), ("is_last", .bl false)])) c = some o := fun c o hc ho => (upd_ne hc).trans (k17 c o hc ho)
    generalize upd H17 a (.ins A.RD dx [("book", .ref pb), ("kind", .str kd), ("now", .str "start"), ("part", .str ""), ("count", .int 0), ("line", .ref l1), ("is_ending", .bl false), ("start", .ref t), ("fields", .ref l2), ("left", .int 0), ("expected", .ref l3), ("message", .ref x), ("is_last", .bl false)]) = H18 at *
    refine ⟨_, rfl, a, A.RD, dx, _, rfl, a18, T.cl_Reader, T.n_Reader_skips_wait, (by show 13 < 1000; decide), ?_⟩
    rw [rini_13]
    replace gl1 := (upd_ne (o := .ins A.RD dx [("book", .ref pb), ("kind", .str kd), ("now", .str "start"), ("part", .str ""), ("count", .int 0), ("line", .ref l1), ("is_ending", .bl false), ("start", .ref t), ("fields", .ref l2), ("left", .int 0), ("expected", .ref l3), ("message", .ref x), ("is_last", .bl false), ("skips_wait", .bl false)]) nl1).trans gl1
    replace gt := (upd_ne (o := .ins A.RD dx [("book", .ref pb), ("kind", .str kd), ("now", .str "start"), ("part", .str ""), ("count", .int 0), ("line", .ref l1), ("is_ending", .bl false), ("start", .ref t), ("fields", .ref l2), ("left", .int 0), ("expected", .ref l3), ("message", .ref x), ("is_last", .bl false), ("skips_wait", .bl false)]) nt).trans gt
    replace gl2 := (upd_ne (o := .ins A.RD dx [("book", .ref pb), ("kind", .str kd), ("now", .str "start"), ("part", .str ""), ("count", .int 0), ("line", .ref l1), ("is_ending", .bl false), ("start", .ref t), ("fields", .ref l2), ("left", .int 0), ("expected", .ref l3), ("message", .ref x), ("is_last", .bl false), ("skips_wait", .bl false)]) nl2).trans gl2
    replace gl3 := (upd_ne (o := .ins A.RD dx [("book", .ref pb), ("kind", .str kd), ("now", .str "start"), ("part", .str ""), ("count", .int 0), ("line", .ref l1), ("is_ending", .bl false), ("start", .ref t), ("fields", .ref l2), ("left", .int 0), ("expected", .ref l3), ("message", .ref x), ("is_last", .bl false), ("skips_wait", .bl false)]) nl3).trans gl3
    replace g1 := (upd_ne (o := .ins A.RD dx [("book", .ref pb), ("kind", .str kd), ("now", .str "start"), ("part", .str ""), ("count", .int 0), ("line", .ref l1), ("is_ending", .bl false), ("start", .ref t), ("fields", .ref l2), ("left", .int 0), ("expected", .ref l3), ("message", .ref x), ("is_last", .bl false), ("skips_wait", .bl false)]) nx).trans g1
    have a19 := @upd_same H18 a (.ins A.RD dx [("book", .ref pb), ("kind", .str kd), ("now", .str "start"), ("part", .str ""), ("count", .int 0), ("line", .ref l1), ("is_ending", .bl false), ("start", .ref t), ("fields", .ref l2), ("left", .int 0), ("expected", .ref l3), ("message", .ref x), ("is_last", .bl false), ("skips_wait", .bl false)])
    have k19 : ∀ c o, c ≠ a → H c = some o → (upd H18 a (.ins A.RD dx [("book", .ref pb), ("kind", .str kd), ("now", .str "start"), ("part", .str ""), ("count", .int 0), ("line", .ref l1), ("is_ending", .bl false), ("start", .ref t), ("fields", .ref l2), ("left", .int 0), ("expected", .ref l3), ("message", .ref x), ("is_last", .bl false), ("skips_wait", .bl false)])) c = some o := fun c o hc ho => (upd_ne hc).trans (k18 c o hc ho)
    generalize upd H18 a (.ins A.RD dx [("book", .ref pb), ("kind", .str kd), ("now", .str "start"), ("part", .str ""), ("count", .int 0), ("line", .ref l1), ("is_ending", .bl false), ("start", .ref t), ("fields", .ref l2), ("left", .int 0), ("expected", .ref l3), ("message", .ref x), ("is_last", .bl false), ("skips_wait", .bl false)]) = H19 at *
    refine ⟨_, rfl, a, A.RD, dx, _, rfl, a19, T.cl_Reader, T.n_Reader_is_closed, (by show 14 < 1000; decide), ?_⟩
    rw [rini_14]
    replace gl1 := (upd_ne (o := .ins A.RD dx [("book", .ref pb), ("kind", .str kd), ("now", .str "start"), ("part", .str ""), ("count", .int 0), ("line", .ref l1), ("is_ending", .bl false), ("start", .ref t), ("fields", .ref l2), ("left", .int 0), ("expected", .ref l3), ("message", .ref x), ("is_last", .bl false), ("skips_wait", .bl false), ("is_closed", .bl false)]) nl1).trans gl1
    replace gt := (upd_ne (o := .ins A.RD dx [("book", .ref pb), ("kind", .str kd), ("now", .str "start"), ("part", .str ""), ("count", .int 0), ("line", .ref l1), ("is_ending", .bl false), ("start", .ref t), ("fields", .ref l2), ("left", .int 0), ("expected", .ref l3), ("message", .ref x), ("is_last", .bl false), ("skips_wait", .bl false), ("is_closed", .bl false)]) nt).trans gt
    replace gl2 := (upd_ne (o := .ins A.RD dx [("book", .ref pb), ("kind", .str kd), ("now", .str "start"), ("part", .str ""), ("count", .int 0), ("line", .ref l1), ("is_ending", .bl false), ("start", .ref t), ("fields", .ref l2), ("left", .int 0), ("expected", .ref l3), ("message", .ref x), ("is_last", .bl false), ("skips_wait", .bl false), ("is_closed", .bl false)]) nl2).trans gl2
    replace gl3 := (upd_ne (o := .ins A.RD dx [("book", .ref pb), ("kind", .str kd), ("now", .str "start"), ("part", .str ""), ("count", .int 0), ("line", .ref l1), ("is_ending", .bl false), ("start", .ref t), ("fields", .ref l2), ("left", .int 0), ("expected", .ref l3), ("message", .ref x), ("is_last", .bl false), ("skips_wait", .bl false), ("is_closed", .bl false)]) nl3).trans gl3
    replace g1 := (upd_ne (o := .ins A.RD dx [("book", .ref pb), ("kind", .str kd), ("now", .str "start"), ("part", .str ""), ("count", .int 0), ("line", .ref l1), ("is_ending", .bl false), ("start", .ref t), ("fields", .ref l2), ("left", .int 0), ("expected", .ref l3), ("message", .ref x), ("is_last", .bl false), ("skips_wait", .bl false), ("is_closed", .bl false)]) nx).trans g1
    have a20 := @upd_same H19 a (.ins A.RD dx [("book", .ref pb), ("kind", .str kd), ("now", .str "start"), ("part", .str ""), ("count", .int 0), ("line", .ref l1), ("is_ending", .bl false), ("start", .ref t), ("fields", .ref l2), ("left", .int 0), ("expected", .ref l3), ("message", .ref x), ("is_last", .bl false), ("skips_wait", .bl false), ("is_closed", .bl false)])
    have k20 : ∀ c o, c ≠ a → H c = some o → (upd H19 a (.ins A.RD dx [("book", .ref pb), ("kind", .str kd), ("now", .str "start"), ("part", .str ""), ("count", .int 0), ("line", .ref l1), ("is_ending", .bl false), ("start", .ref t), ("fields", .ref l2), ("left", .int 0), ("expected", .ref l3), ("message", .ref x), ("is_last", .bl false), ("skips_wait", .bl false), ("is_closed", .bl false)])) c = some o := fun c o hc ho => (upd_ne hc).trans (k19 c o hc ho)
    generalize upd H19 a (.ins A.RD dx [("book", .ref pb), ("kind", .str kd), ("now", .str "start"), ("part", .str ""), ("count", .int 0), ("line", .ref l1), ("is_ending", .bl false), ("start", .ref t), ("fields", .ref l2), ("left", .int 0), ("expected", .ref l3), ("message", .ref x), ("is_last", .bl false), ("skips_wait", .bl false), ("is_closed", .bl false)]) = H20 at *
    refine k ⟨pb, l1, t, l2, l3, x⟩ H20 ⟨⟨dx, a20⟩, ⟨⟨bd, k20 _ _ ab hb⟩, gl1, gt, ⟨[], gl2, .nil⟩, ⟨[], gl3, .nil⟩, ⟨x, xd, rfl, g1⟩⟩, ml2l1, ml3l1, ml3l2⟩ k20 ⟨fl1, fl2, fl3⟩
end
end K32

namespace K32
open PySem PySem.Spec PyProof.Rows L2
section
variable {P : Program} {w : World} {K : PySem.W.Frag} {mg : Str → Option Value} {base : Heap} {A : Adr}
/-! ### Reader.expect, Reader.state -/
theorem RdP.asks' {H : Hp} {p : Addr} {kd : Str} {R : RA} {b : Bk} {s : RS} (h : RdP A H p kd R b s) {ms2 : List V} {as2 : List Ask} (hp : Paired (MsgAt A H) ms2 as2) : RdP A (upd H R.ex (.lst ms2)) p kd R b { s with asks := as2 } := by
  obtain ⟨⟨dx, ha⟩, ⟨c1, c2, c3, ⟨fl, hf, pf⟩, ⟨ms, hx, px⟩, c6⟩, n1, n2, n3⟩ := h
  have k : Kept [R.ex] H (upd H R.ex (.lst ms2)) := Kept.upd List.mem_cons_self
  have hm : ∀ a ∈ [R.ex], ∀ o, H a = some o → Mut o := fun a ha o ho => by
    rw [List.mem_singleton.mp ha, hx] at ho
    cases ho
    exact .inl ⟨_, rfl⟩
  have pe : p ≠ R.ex := fun z => by rw [z, hx] at ha; cases ha
  exact ⟨⟨dx, (upd_ne pe).trans ha⟩, ⟨c1.keep k hm, (upd_ne n2).trans c2, k.solid hm c3 not_tup, ⟨fl, (upd_ne n3).trans hf, flds_mono (k.tk hm) pf⟩, ⟨ms2, upd_same, L2.Paired.mapP hp fun _ _ q => q.keep k hm⟩, c6.keep k hm⟩, n1, n2, n3⟩
theorem MsgAt.mono {H H' : Hp} {x : V} {m : Ask} (e : Ex H H') (h : MsgAt A H x m) : MsgAt A H' x m := by
  obtain ⟨a, dx, rfl, ha⟩ := h
  exact ⟨a, dx, rfl, e _ _ ha⟩
def sp_Reader_expect : Sp := fun vs H Q _ => ∃ (p : Addr) (R : RA) (b : Bk) (s : RS) (m : Ask), vs = [.ref p, .str m.method, .bl m.up, .bl m.last] ∧ RdP A H p RESPS R b s ∧ isTok m.method = true ∧ m.method.length ≤ 300 ∧ s.asks.length ≤ 1000 ∧
  ∀ H', RdP A H' p RESPS R b { s with asks := s.asks ++ [m] } → Kept (ownP p R) H H' → Q .non H'
abbrev N_Reader_expect : List Str := ["self", "method", "upgrade", "last"]
theorem sc_Reader_expect : FnScope N_Reader_expect ["self", "method", "upgrade", "last"] (defScope s_Reader_expect) := ⟨rfl, rfl, rfl, by decide +kernel, rfl, by decide +kernel, by decide +kernel⟩
theorem h_Reader_expect (T : Txt K w mg A) : HasMK CX0 P w K mg base A.RD "expect" 3 2 ["upgrade", "last"] (sp_Reader_expect (A := A)) := by
  refine hasMK0 (k := 2) T.d_Reader_expect (by simp) sc_Reader_expect (fun _ _ _ _ _ _ us ws hl hw => match us, hl, ws, hw with | [_, _], _, [_, _], _ => rfl) (fun vs H Q E h => ?_) (fun ff cdv A0 outer ss H vs Q E hr h => ?_)
  · obtain ⟨p, R, b, s, m, rfl, _⟩ := h
    rfl
  · obtain ⟨p, R, b, s, m, rfl, hR, ht, hml, hal, hk⟩ := h
    obtain ⟨dx, hp⟩ := hR.at_
    refine ⟨_, ((pss_cons (ps_if (pt_cmpR op_eq (pe_fld (pv 0) rfl) (C8.pe_gc rfl T.c_REQUESTS) (nomark _)) (pss_one ps_never) pss_nil)
      (pss_cons (ps_if (pt_not (pt_val (pe_fn (h_is_token T) (hr.mono (by decide)) paN (pa_cons (pv 1) pa_nil)))) (pss_one ps_never) pss_nil)
      (pss_one (ps_expr (pe_bm PySem.F.plainAttrs_list PySem.F.slot_list_append PySem.F.type_list_append mt_append (pe_fld (pv 0) rfl) (pa_cons (pe_mkI (hi_Message T) (hr.mono (by decide)) (pa_cons (pv 1) (pa_cons (pv 2) (pa_cons (pv 3) pa_nil)))) pa_nil))))))), ?_⟩
    refine ⟨_, rfl, p, A.RD, dx, _, _, rfl, hp, T.cl_Reader, T.n_Reader_kind, rfs_kind _ _ _, rfl, _, rfl, ?_⟩
    rw [dec_vs]
    refine ite2 (fun z => absurd (of_decide_eq_true z) kinds_ne) (fun _ => ?_)
    refine ⟨_, rfl, _, rfl, hml, fun H1 e1 => ⟨_, rfl, ?_⟩⟩
    rw [ht]
    refine iteF ?_
    have R1 := hR.mono e1
    obtain ⟨dx1, hp1⟩ := R1.at_
    obtain ⟨ms1, hx1, px1⟩ := R1.co.ex
    have lm := px1.length
    refine ⟨_, rfl, p, A.RD, dx1, _, _, rfl, hp1, T.cl_Reader, T.n_Reader_expected, rfs_expected _ _ _, Or.inl ⟨rfl, _, SqL.of hx1⟩, _, rfl, _, rfl, _, rfl, fun x xd hx hxd hne => ⟨x, m, xd, rfl, upd_same, fun H2 g1 g2 => ⟨rfl, ?_⟩⟩⟩
    have e2 : Ex H1 H2 := mk_ex hx hxd g2
    have R2 := R1.mono e2
    refine ⟨R.ex, ms1, .ref x, rfl, rfl, e2 _ _ hx1, Nat.lt_of_le_of_lt (by omega : ms1.length ≤ 1000) (by decide), ?_⟩
    refine hk _ (R2.asks' (Paired.snoc (L2.Paired.mapP px1 fun _ _ q => q.mono e2) ⟨x, xd, rfl, g1⟩)) ?_
    exact (Kept.of (e1.tr e2)).tr (Kept.upd (by simp))
def sp_Reader_state : Sp := fun vs H Q _ => ∃ (p : Addr) (kd : Str) (R : RA) (s : RS) (dx : Addr), vs = [.ref p] ∧ H p = some (.ins A.RD dx (rfs kd R s)) ∧ Q (.str s.now) H
abbrev N_Reader_state : List Str := ["self"]
theorem sc_Reader_state : FnScope N_Reader_state ["self"] (defScope s_Reader_state) := ⟨rfl, rfl, rfl, by decide +kernel, rfl, by decide +kernel, by decide +kernel⟩
/-- a property's getter -/
structure HasP (P : Program) (w : World) (K : PySem.W.Frag) (mg : Str → Option Value) (base : Heap) (C : Addr) (m : Str) (k : Nat) (ps : List Str) (sp : Sp) : Prop where
  ex : ∃ p g fd, PropOf K C m p g ∧ Binds K fd ps [] ∧ FnOk P w K mg base CX0 k g fd ps sp
theorem h_Reader_state (T : Txt K w mg A) : HasP P w K mg base A.RD "state" 1 ["self"] (sp_Reader_state (A := A)) := by
  obtain ⟨p, g, hp, oc, od, kV, doc, pm, an, cdv, ct, osl, lk, hcd⟩ := T.d_Reader_state.ex
  refine ⟨p, g, _, hp, ?_, fn_of lk hcd sc_Reader_state (fun vs H Q E h => ?_) fun A0 outer s H vs Q E hr h => ?_⟩
  · exact Binds.all fun us hl => match us, hl with | [_], _ => rfl
  · obtain ⟨p, kd, R, s, dx, rfl, _⟩ := h
    rfl
  · obtain ⟨p, kd, R, st, dx, rfl, hp, k⟩ := h
    have G : PSs (cxOf CX0 P w K mg base N_Reader_state "Reader.state" (defScope s_Reader_state) g cdv A0 outer s H E).nox (defBody s_Reader_state) _ := ((pss_one (ps_ret (pe_fld (pv 0) rfl))))
    refine ⟨_, G.nox, ?_⟩
    exact ⟨_, rfl, p, A.RD, dx, _, _, rfl, hp, T.cl_Reader, T.n_Reader_now, rfs_now _ _ _, k⟩
end
end K32

namespace K32
open PySem PySem.Spec PyProof.Rows L2
/-! ### the plain law: a reader fed octet by octet -/
def runM (kd : Str) (b : Bk) : RS → List Int → Out
  | s, [] => (s, [])
  | s, o :: r => ((runM kd b (stepM kd b s o).1 r).1, (stepM kd b s o).2 ++ (runM kd b (stepM kd b s o).1 r).2)
theorem runM_app (kd : Str) (b : Bk) : ∀ (x y : List Int) (s : RS), runM kd b s (x ++ y) = ((runM kd b (runM kd b s x).1 y).1, (runM kd b s x).2 ++ (runM kd b (runM kd b s x).1 y).2)
  | [], y, s => rfl
  | o :: r, y, s => by
    show ((runM kd b (stepM kd b s o).1 (r ++ y)).1, (stepM kd b s o).2 ++ (runM kd b (stepM kd b s o).1 (r ++ y)).2) = _
    rw [runM_app kd b r y]
    show (_, _ ++ (_ ++ _)) = (_, (_ ++ _) ++ _)
    rw [List.append_assoc]
    rfl
theorem runM_wrong {kd : Str} {b : Bk} : ∀ (x : List Int) (s : RS), s.now = "wrong" → runM kd b s x = ({ s with count := s.count + x.length }, [])
  | [], s, h => by
    show (s, []) = _
    congr 1
    show s = { s with count := s.count + 0 }
    rw [Int.add_zero]
  | o :: r, s, h => by
    have e : stepM kd b s o = ({ s with count := s.count + 1 }, []) := if_pos h
    show ((runM kd b (stepM kd b s o).1 r).1, (stepM kd b s o).2 ++ (runM kd b (stepM kd b s o).1 r).2) = _
    rw [e, runM_wrong r { s with count := s.count + 1 } h]
    show ({ s with count := s.count + 1 + (r.length : Int) }, ([] : List Evt) ++ []) = _
    have e2 : s.count + 1 + (r.length : Int) = s.count + ((o :: r).length : Int) := by
      rw [List.length_cons]
      omega
    rw [e2]
    rfl
/-! ### lines -/
inductive LRes where
  | more (acc : List Int) (r : Bool)
  | line (octs : List Int) (k : Nat)
  | err (z : Str) (k : Nat)
def LRes.ups (i : Nat) : LRes → LRes
  | .more a r => .more a r
  | .line o k => .line o (k + i)
  | .err z k => .err z (k + i)
/-- what comes of a line whose octets so far are acc, a return behind them or not -/
def lineGo (m : Int) : List Int → List Int → Bool → LRes
  | [], acc, r => .more acc r
  | o :: rest, acc, true => if o = 10 then .line acc 1 else .err "ending" 0
  | o :: rest, acc, false =>
    if o = 10 then .err "ending" 0 else if o = 13 then (lineGo m rest acc true).ups 1 else if octB o = false then .err "octet" 0 else if (acc.length : Int) = m then .err "long" 0 else (lineGo m rest (acc ++ [o]) false).ups 1
/-- the reader waits for a line -/
structure LM (kd : Str) (s : RS) : Prop where
  nw : s.now = "start" ∨ s.now = "head" ∨ s.now = "body"
  un : ¬ (s.now = "start" ∧ kd = RESPS ∧ s.asks = [])
  ce : s.part ≠ "chunk end"
  bd : ¬ (s.now = "body" ∧ (s.part = "length" ∨ s.part = "chunk" ∨ s.part = "rest"))
theorem now_ne {s : RS} (h : s.now = "start" ∨ s.now = "head" ∨ s.now = "body") : s.now ≠ "wrong" ∧ s.now ≠ "raw" ∧ ¬ (s.now = "waiting" ∨ s.now = "over") := by
  rcases h with h | h | h <;> rw [h] <;> decide +kernel
theorem step_line {kd : Str} {b : Bk} {s : RS} (h : LM kd s) (o : Int) : stepM kd b s o = ({ (if s.ending = true ∨ o = 13 ∨ o = 10 then readLineEnd kd b s o else if octB o = false then failM "octet" s else if (s.line.length : Int) = b.line then failM "long" s else ({ s with line := s.line ++ [o] }, []) : Out).1 with
      count := (if s.ending = true ∨ o = 13 ∨ o = 10 then readLineEnd kd b s o else if octB o = false then failM "octet" s else if (s.line.length : Int) = b.line then failM "long" s else ({ s with line := s.line ++ [o] }, []) : Out).1.count + 1 },
    (if s.ending = true ∨ o = 13 ∨ o = 10 then readLineEnd kd b s o else if octB o = false then failM "octet" s else if (s.line.length : Int) = b.line then failM "long" s else ({ s with line := s.line ++ [o] }, []) : Out).2) := by
  obtain ⟨n1, n2, n3⟩ := now_ne h.nw
  have e : readSome kd b s o = (if s.ending = true ∨ o = 13 ∨ o = 10 then readLineEnd kd b s o else if octB o = false then failM "octet" s else if (s.line.length : Int) = b.line then failM "long" s else ({ s with line := s.line ++ [o] }, [])) := by
    unfold readSome
    rw [if_neg n2, if_neg h.bd]
    unfold readOctet
    rw [if_neg n3, if_neg h.un, if_neg h.ce]
  unfold stepM
  rw [if_neg n1, e]
/-- an octet of a line, a return, an error -/
theorem step_octet {kd : Str} {b : Bk} {s : RS} (h : LM kd s) {o : Int} (he : s.ending = false) (h13 : o ≠ 13) (h10 : o ≠ 10) : stepM kd b s o = (if octB o = false then ({ s with now := "wrong", count := s.count + 1 }, [.err "octet" s.count])
    else if (s.line.length : Int) = b.line then ({ s with now := "wrong", count := s.count + 1 }, [.err "long" s.count]) else ({ s with line := s.line ++ [o], count := s.count + 1 }, [])) := by
  rw [step_line h o, if_neg (by rw [he]; rintro (z | z | z); exact Bool.noConfusion z; exact h13 z; exact h10 z)]
  by_cases q1 : octB o = false
  · rw [if_pos q1, if_pos q1]
    rfl
  · rw [if_neg q1, if_neg q1]
    by_cases q2 : (s.line.length : Int) = b.line
    · rw [if_pos q2, if_pos q2]
      rfl
    · rw [if_neg q2, if_neg q2]
theorem step_ret {kd : Str} {b : Bk} {s : RS} (h : LM kd s) (he : s.ending = false) : stepM kd b s 13 = ({ s with ending := true, count := s.count + 1 }, []) := by
  rw [step_line h 13, if_pos (.inr (.inl rfl))]
  have e : readLineEnd kd b s 13 = ({ s with ending := true }, []) := by
    unfold readLineEnd
    rw [if_neg (by rw [he]; decide), if_pos he]
  rw [e]
theorem step_badend {kd : Str} {b : Bk} {s : RS} (h : LM kd s) {o : Int} (h1 : s.ending = true ∨ o = 13 ∨ o = 10) (h2 : s.ending ≠ decide (o = 10)) : stepM kd b s o = ({ s with now := "wrong", count := s.count + 1 }, [.err "ending" s.count]) := by
  rw [step_line h o, if_pos h1]
  have e : readLineEnd kd b s o = failM "ending" s := if_pos h2
  rw [e]
  rfl
theorem LM.with {kd : Str} {s : RS} (h : LM kd s) (l : List Int) (e : Bool) (c : Int) : LM kd { s with line := l, ending := e, count := c } := ⟨h.nw, h.un, h.ce, h.bd⟩
/-- what the reader does with the octets of a line -/
def LineRun (kd : Str) (b : Bk) (s : RS) (rest acc : List Int) (r : Bool) (c : Int) : LRes → Prop
  | .more a2 r2 => runM kd b { s with line := acc, ending := r, count := c } rest = ({ s with line := a2, ending := r2, count := c + rest.length }, [])
  | .line octs k => 1 ≤ k ∧ k ≤ rest.length ∧ rest[k - 1]? = some 10 ∧ runM kd b { s with line := acc, ending := r, count := c } (rest.take (k - 1)) = ({ s with line := octs, ending := true, count := c + ((k - 1 : Nat) : Int) }, [])
  | .err z k => k < rest.length ∧ ∃ a2 r2, runM kd b { s with line := acc, ending := r, count := c } (rest.take (k + 1)) = ({ s with line := a2, ending := r2, now := "wrong", count := c + (k : Int) + 1 }, [.err z (c + (k : Int))])
theorem runM_cons {kd : Str} {b : Bk} {s s1 : RS} {o : Int} {r : List Int} (h : stepM kd b s o = (s1, [])) : runM kd b s (o :: r) = runM kd b s1 r := by
  show ((runM kd b (stepM kd b s o).1 r).1, (stepM kd b s o).2 ++ (runM kd b (stepM kd b s o).1 r).2) = _
  rw [h]
  rfl
/-- one octet more in front -/
theorem LineRun.cons {kd : Str} {b : Bk} {s : RS} {o : Int} {rest acc a1 : List Int} {r r1 : Bool} {c : Int} {L : LRes} (h : stepM kd b { s with line := acc, ending := r, count := c } o = ({ s with line := a1, ending := r1, count := c + 1 }, [])) (hr : LineRun kd b s rest a1 r1 (c + 1) L) :
    LineRun kd b s (o :: rest) acc r c (L.ups 1) := by
  cases L with
  | more a2 r2 =>
    show runM kd b _ (o :: rest) = _
    rw [runM_cons h]
    have e : c + ((o :: rest).length : Int) = c + 1 + (rest.length : Int) := by
      rw [List.length_cons]
      omega
    rw [e]
    exact hr
  | line octs k =>
    obtain ⟨h1, h2, h3, h4⟩ := hr
    obtain ⟨k, rfl⟩ : ∃ j, k = j + 1 := ⟨k - 1, by omega⟩
    refine ⟨by show 1 ≤ k + 1 + 1; omega, by rw [List.length_cons]; show k + 1 + 1 ≤ rest.length + 1; omega, ?_, ?_⟩
    · show (o :: rest)[k + 1 + 1 - 1]? = some 10
      simpa using h3
    · show runM kd b _ ((o :: rest).take (k + 1 + 1 - 1)) = _
      have e1 : (o :: rest).take (k + 1 + 1 - 1) = o :: rest.take (k + 1 - 1) := by simp
      rw [e1, runM_cons h, h4]
      congr 2
      show c + 1 + ((k + 1 - 1 : Nat) : Int) = c + ((k + 1 + 1 - 1 : Nat) : Int)
      omega
  | err z k =>
    obtain ⟨h1, a2, r2, h2⟩ := hr
    refine ⟨by rw [List.length_cons]; show k + 1 < rest.length + 1; omega, a2, r2, ?_⟩
    show runM kd b _ ((o :: rest).take (k + 1 + 1)) = _
    have e1 : (o :: rest).take (k + 1 + 1) = o :: rest.take (k + 1) := by simp
    have e2 : c + 1 + (k : Int) = c + ((k + 1 : Nat) : Int) := by omega
    rw [e1, runM_cons h, h2, e2]
theorem run1 {kd : Str} {b : Bk} {s : RS} {o : Int} {r : List Int} : runM kd b s ((o :: r).take 1) = stepM kd b s o := by
  show ((runM kd b (stepM kd b s o).1 []).1, (stepM kd b s o).2 ++ (runM kd b (stepM kd b s o).1 []).2) = _
  show ((stepM kd b s o).1, (stepM kd b s o).2 ++ []) = _
  rw [List.append_nil]
theorem line_run {kd : Str} {b : Bk} {s : RS} (h : LM kd s) : ∀ (rest acc : List Int) (r : Bool) (c : Int), LineRun kd b s rest acc r c (lineGo b.line rest acc r)
  | [], acc, r, c => by
    show runM kd b _ [] = _
    show ({ s with line := acc, ending := r, count := c }, ([] : List Evt)) = ({ s with line := acc, ending := r, count := c + 0 }, [])
    rw [Int.add_zero]
  | o :: rest, acc, true, c => by
    have hm := h.with acc true c
    by_cases h10 : o = 10
    · have e : lineGo b.line (o :: rest) acc true = .line acc 1 := if_pos h10
      rw [e]
      refine ⟨Nat.le_refl _, by rw [List.length_cons]; omega, by rw [h10]; rfl, ?_⟩
      show ({ s with line := acc, ending := true, count := c }, ([] : List Evt)) = ({ s with line := acc, ending := true, count := c + 0 }, [])
      rw [Int.add_zero]
    · have e : lineGo b.line (o :: rest) acc true = .err "ending" 0 := if_neg h10
      rw [e]
      refine ⟨by rw [List.length_cons]; omega, acc, true, ?_⟩
      rw [show (0 : Nat) + 1 = 1 from rfl, run1, step_badend hm (.inl rfl) (by rw [decide_eq_false h10]; exact Bool.noConfusion)]
      show (({ s with line := acc, ending := true, now := "wrong", count := c + 1 } : RS), [Evt.err "ending" c]) = ({ s with line := acc, ending := true, now := "wrong", count := c + 0 + 1 }, [.err "ending" (c + 0)])
      rw [Int.add_zero]
  | o :: rest, acc, false, c => by
    have hm := h.with acc false c
    by_cases h10 : o = 10
    · have e : lineGo b.line (o :: rest) acc false = .err "ending" 0 := if_pos h10
      rw [e]
      refine ⟨by rw [List.length_cons]; omega, acc, false, ?_⟩
      rw [show (0 : Nat) + 1 = 1 from rfl, run1, step_badend hm (.inr (.inr h10)) (by rw [decide_eq_true h10]; exact Bool.noConfusion)]
      show (({ s with line := acc, ending := false, now := "wrong", count := c + 1 } : RS), [Evt.err "ending" c]) = ({ s with line := acc, ending := false, now := "wrong", count := c + 0 + 1 }, [.err "ending" (c + 0)])
      rw [Int.add_zero]
    · by_cases h13 : o = 13
      · have e : lineGo b.line (o :: rest) acc false = (lineGo b.line rest acc true).ups 1 := (if_neg h10).trans (if_pos h13)
        rw [e]
        refine LineRun.cons ?_ (line_run h rest acc true (c + 1))
        rw [h13]
        exact step_ret hm rfl
      · have so := step_octet (b := b) hm (o := o) rfl h13 h10
        by_cases ho : octB o = false
        · have e : lineGo b.line (o :: rest) acc false = .err "octet" 0 := (if_neg h10).trans ((if_neg h13).trans (if_pos ho))
          rw [e]
          rw [if_pos ho] at so
          refine ⟨by rw [List.length_cons]; omega, acc, false, ?_⟩
          rw [show (0 : Nat) + 1 = 1 from rfl, run1, so]
          show (({ s with line := acc, ending := false, now := "wrong", count := c + 1 } : RS), [Evt.err "octet" c]) = ({ s with line := acc, ending := false, now := "wrong", count := c + 0 + 1 }, [.err "octet" (c + 0)])
          rw [Int.add_zero]
        · rw [if_neg ho] at so
          by_cases hl : (acc.length : Int) = b.line
          · have e : lineGo b.line (o :: rest) acc false = .err "long" 0 := (if_neg h10).trans ((if_neg h13).trans ((if_neg ho).trans (if_pos hl)))
            rw [e]
            have hl' : (({ s with line := acc, ending := false, count := c } : RS).line.length : Int) = b.line := hl
            rw [if_pos hl'] at so
            refine ⟨by rw [List.length_cons]; omega, acc, false, ?_⟩
            rw [show (0 : Nat) + 1 = 1 from rfl, run1, so]
            show (({ s with line := acc, ending := false, now := "wrong", count := c + 1 } : RS), [Evt.err "long" c]) = ({ s with line := acc, ending := false, now := "wrong", count := c + 0 + 1 }, [.err "long" (c + 0)])
            rw [Int.add_zero]
          · have e : lineGo b.line (o :: rest) acc false = (lineGo b.line rest (acc ++ [o]) false).ups 1 := (if_neg h10).trans ((if_neg h13).trans ((if_neg ho).trans (if_neg hl)))
            rw [e]
            have hl' : ¬ (({ s with line := acc, ending := false, count := c } : RS).line.length : Int) = b.line := hl
            rw [if_neg hl'] at so
            exact LineRun.cons so (line_run h rest (acc ++ [o]) false (c + 1))
/-- the octets of a line are such, and not too many -/
def LResOk (m : Int) : LRes → Prop
  | .more a _ => (∀ x ∈ a, octB x = true) ∧ (a.length : Int) ≤ m
  | .line a _ => (∀ x ∈ a, octB x = true) ∧ (a.length : Int) ≤ m
  | .err z _ => z.length ≤ 100
theorem LResOk.ups {m : Int} {L : LRes} {i : Nat} (h : LResOk m L) : LResOk m (L.ups i) := by
  cases L <;> exact h
theorem lineGo_ok (m : Int) : ∀ (rest acc : List Int) (r : Bool), (∀ x ∈ acc, octB x = true) → (acc.length : Int) ≤ m → LResOk m (lineGo m rest acc r)
  | [], acc, r, h1, h2 => ⟨h1, h2⟩
  | o :: rest, acc, true, h1, h2 => by
    by_cases h10 : o = 10
    · rw [show lineGo m (o :: rest) acc true = .line acc 1 from if_pos h10]
      exact ⟨h1, h2⟩
    · rw [show lineGo m (o :: rest) acc true = .err "ending" 0 from if_neg h10]
      show (Str.ofString "ending").length ≤ 100
      decide +kernel
  | o :: rest, acc, false, h1, h2 => by
    by_cases h10 : o = 10
    · rw [show lineGo m (o :: rest) acc false = .err "ending" 0 from if_pos h10]
      show (Str.ofString "ending").length ≤ 100
      decide +kernel
    · by_cases h13 : o = 13
      · rw [show lineGo m (o :: rest) acc false = (lineGo m rest acc true).ups 1 from (if_neg h10).trans (if_pos h13)]
        exact (lineGo_ok m rest acc true h1 h2).ups
      · by_cases ho : octB o = false
        · rw [show lineGo m (o :: rest) acc false = .err "octet" 0 from (if_neg h10).trans ((if_neg h13).trans (if_pos ho))]
          show (Str.ofString "octet").length ≤ 100
          decide +kernel
        · by_cases hl : (acc.length : Int) = m
          · rw [show lineGo m (o :: rest) acc false = .err "long" 0 from (if_neg h10).trans ((if_neg h13).trans ((if_neg ho).trans (if_pos hl)))]
            show (Str.ofString "long").length ≤ 100
            decide +kernel
          · rw [show lineGo m (o :: rest) acc false = (lineGo m rest (acc ++ [o]) false).ups 1 from (if_neg h10).trans ((if_neg h13).trans ((if_neg ho).trans (if_neg hl)))]
            refine (lineGo_ok m rest (acc ++ [o]) false ?_ ?_).ups
            · intro x hx
              rcases List.mem_append.mp hx with h | h
              · exact h1 x h
              · rw [List.mem_singleton.mp h]
                simpa using ho
            · rw [List.length_append]
              show ((acc.length + 1 : Nat) : Int) ≤ m
              omega
end K32

namespace K32
open PySem PySem.Spec PyProof.Rows L2
theorem hu_of {k : Nat} {A : Around} (r : Room k A) : A.units + 1 < cLine := by
  have := r.units
  omega
theorem hu_ofH {k : Nat} {A : Around} (r : L2H.RoomH k A) : A.units + 1 < cLine := by
  have := r.un
  omega
/-! ### the law's own reader: its dict -/
def lsk (n : Int) (le : Addr) (st ins : Str) (la : Addr) (fo : Option V) : List (Key × V) :=
  (.inr "at", .int n) :: (.inr "events", .ref le) :: (.inr "state", .str st) :: (.inr "inside", .str ins) :: (.inr "asks", .ref la) :: (match fo with | none => [] | some v => [(.inr "first", v)])
section
variable {n : Int} {le la : Addr} {st ins : Str} {fo : Option V}
theorem lget_at : valV (lsk n le st ins la fo) (.inr ("at" : Str)) = some (.int n) := by cases fo <;> rfl
theorem lget_events : valV (lsk n le st ins la fo) (.inr ("events" : Str)) = some (.ref le) := by cases fo <;> rfl
theorem lget_state : valV (lsk n le st ins la fo) (.inr ("state" : Str)) = some (.str st) := by cases fo <;> rfl
theorem lget_inside : valV (lsk n le st ins la fo) (.inr ("inside" : Str)) = some (.str ins) := by cases fo <;> rfl
theorem lget_asks : valV (lsk n le st ins la fo) (.inr ("asks" : Str)) = some (.ref la) := by cases fo <;> rfl
theorem lput_at {m : Int} : putK (lsk n le st ins la fo) (.inr ("at" : Str)) (.int m) = lsk m le st ins la fo := by cases fo <;> rfl
theorem lput_state {z : Str} : putK (lsk n le st ins la fo) (.inr ("state" : Str)) (.str z) = lsk n le z ins la fo := by cases fo <;> rfl
theorem lput_inside {z : Str} : putK (lsk n le st ins la fo) (.inr ("inside" : Str)) (.str z) = lsk n le st z la fo := by cases fo <;> rfl
theorem lput_first {v : V} : putK (lsk n le st ins la fo) (.inr ("first" : Str)) v = lsk n le st ins la (some v) := by cases fo <;> rfl
theorem lsk_len : (lsk n le st ins la fo).length < sizeLine := by
  cases fo
  · exact (by decide : 5 < sizeLine)
  · exact (by decide : 6 < sizeLine)
end
theorem dget {H : Hp} {a : Addr} {kvs : List (Key × V)} {z : Str} {v : V} (h : H a = some (.dK kvs)) (e : valV kvs (.inr z) = some v) : DGet H a (.str z) (some v) := e ▸ DGet.k (k := .inr z) h
theorem dput {H : Hp} {a : Addr} {n : Int} {le la : Addr} {st ins : Str} {fo : Option V} {z : Str} {v : V} (h : H a = some (.dK (lsk n le st ins la fo))) : DPut H a (.str z) v (upd H a (.dK (putK (lsk n le st ins la fo) (.inr z) v))) := DPut.k (k := .inr z) h lsk_len
def AskAt (H : Hp) (x : V) (m : Ask) : Prop := ∃ t, x = .ref t ∧ H t = some (.tup [.str m.method, .bl m.up, .bl m.last])
def AL (H : Hp) (a : Addr) (as : List Ask) : Prop := ∃ xs, H a = some (.lst xs) ∧ Paired (AskAt H) xs as
theorem AskAt.mono {H H' : Hp} {x : V} {m : Ask} (t : Tk H H') (h : AskAt H x m) : AskAt H' x m := by
  obtain ⟨a, rfl, ha⟩ := h
  exact ⟨a, rfl, t _ _ ha⟩
/-- the law's state -/
structure LSt (H : Hp) (ps le la : Addr) (n : Int) (E : List Evt) (st ins : Str) (asks : List Ask) : Prop where
  at_ : ∃ fo, H ps = some (.dK (lsk n le st ins la fo))
  ev : EL H le E
  ak : AL H la asks
  ne : le ≠ la
abbrev ownL (ps le la : Addr) : List Addr := [ps, le, la]
section
variable {H H' : Hp} {ps le la : Addr} {n : Int} {E : List Evt} {st ins : Str} {asks : List Ask}
theorem LSt.mono (h : LSt H ps le la n E st ins asks) (e : Ex H H') : LSt H' ps le la n E st ins asks := by
  obtain ⟨⟨fo, hd⟩, ⟨xs, hx, px⟩, ⟨ys, hy, py⟩, ne⟩ := h
  exact ⟨⟨fo, e _ _ hd⟩, ⟨xs, e _ _ hx, evs_mono (Tk.of e) px⟩, ⟨ys, e _ _ hy, L2.Paired.mapP py fun _ _ q => q.mono (Tk.of e)⟩, ne⟩
theorem LSt.push (h : LSt H ps le la n E st ins asks) {xs : List V} {x : V} {e : Evt} (hx : H le = some (.lst xs)) (he : EvAt H x e) (hp : Paired (EvAt H) xs E) : LSt (upd H le (.lst (xs ++ [x]))) ps le la n (E ++ [e]) st ins asks := by
  obtain ⟨⟨fo, hd⟩, _, ⟨ys, hy, py⟩, ne⟩ := h
  have t : Tk H (upd H le (.lst (xs ++ [x]))) := Tk.upd hx (fun _ z => by cases z)
  have pl : ps ≠ le := fun z => by rw [z, hx] at hd; cases hd
  exact ⟨⟨fo, (upd_ne pl).trans hd⟩, ⟨_, upd_same, Paired.snoc (evs_mono t hp) (he.mono t)⟩, ⟨ys, (upd_ne (Ne.symm ne)).trans hy, L2.Paired.mapP py fun _ _ q => q.mono t⟩, ne⟩
theorem LSt.dict (h : LSt H ps le la n E st ins asks) {fo : Option V} (hd : H ps = some (.dK (lsk n le st ins la fo))) (n2 : Int) (st2 ins2 : Str) (fo2 : Option V) : LSt (upd H ps (.dK (lsk n2 le st2 ins2 la fo2))) ps le la n2 E st2 ins2 asks := by
  obtain ⟨_, ⟨xs, hx, px⟩, ⟨ys, hy, py⟩, ne⟩ := h
  have t : Tk H (upd H ps (.dK (lsk n2 le st2 ins2 la fo2))) := Tk.upd hd (fun _ z => by cases z)
  have pl : le ≠ ps := fun z => by rw [z, hd] at hx; cases hx
  have pa : la ≠ ps := fun z => by rw [z, hd] at hy; cases hy
  exact ⟨⟨fo2, upd_same⟩, ⟨xs, (upd_ne pl).trans hx, evs_mono t px⟩, ⟨ys, (upd_ne pa).trans hy, L2.Paired.mapP py fun _ _ q => q.mono t⟩, ne⟩
theorem LSt.setst (h : LSt H ps le la n E st ins asks) {fo : Option V} (hd : H ps = some (.dK (lsk n le st ins la fo))) (z : Str) : LSt (upd H ps (.dK (lsk n le z ins la fo))) ps le la n E z ins asks := h.dict hd n z ins fo
/-- what may change in the law's dict: no tuple, no instance -/
theorem LSt.mutS (h : LSt H ps le la n E st ins asks) : ∀ a ∈ ownL ps le la, ∀ o, H a = some o → (∀ xs, o ≠ .tup xs) ∧ (∀ C dx fs, o ≠ .ins C dx fs) := by
  obtain ⟨⟨fo, hd⟩, ⟨xs, hx, px⟩, ⟨ys, hy, py⟩, ne⟩ := h
  intro a ha o ho
  simp only [List.mem_cons, List.not_mem_nil, or_false] at ha
  rcases ha with rfl | rfl | rfl
  · rw [hd] at ho
    cases ho
    exact ⟨(fun _ z => by cases z), (fun _ _ _ z => by cases z)⟩
  · rw [hx] at ho
    cases ho
    exact ⟨(fun _ z => by cases z), (fun _ _ _ z => by cases z)⟩
  · rw [hy] at ho
    cases ho
    exact ⟨(fun _ z => by cases z), (fun _ _ _ z => by cases z)⟩
theorem LSt.tk (h : LSt H ps le la n E st ins asks) (k : Kept (ownL ps le la) H H') : Tk H H' := fun b xs hb => k b _ hb fun hm => (h.mutS b hm _ hb).1 xs rfl
theorem LSt.book {A : Adr} {p : Addr} {b : Bk} (h : LSt H ps le la n E st ins asks) (k : Kept (ownL ps le la) H H') (hb : BookAt A H p b) : BookAt A H' p b := by
  obtain ⟨dx, hp⟩ := hb
  exact ⟨dx, k p _ hp fun hm => (h.mutS p hm _ hp).2 _ _ _ rfl⟩
end
section
variable {P : Program} {w : World} {K : PySem.W.Frag} {mg : Str → Option Value} {base : Heap} {A : Adr}
/-! ### _law_fail -/
def sp__law_fail : Sp := fun vs H Q _ => ∃ (ps le la : Addr) (n : Int) (E : List Evt) (st ins : Str) (asks : List Ask) (k : Str) (i : Int), vs = [.ref ps, .str k, .int i] ∧ LSt H ps le la n E st ins asks ∧ E.length ≤ 1000 ∧
  ∀ H', LSt H' ps le la n (E ++ [.err k i]) "wrong" ins asks → Kept (ownL ps le la) H H' → Q .non H'
abbrev N__law_fail : List Str := ["_law_s", "_law_kind", "_law_place"]
theorem sc__law_fail : FnScope N__law_fail ["_law_s", "_law_kind", "_law_place"] (defScope s__law_fail) := ⟨rfl, rfl, rfl, by decide +kernel, rfl, by decide +kernel, by decide +kernel⟩
theorem h__law_fail (T : Txt K w mg A) : Has CX0 P w K mg base "_law_fail" 1 ["_law_s", "_law_kind", "_law_place"] sp__law_fail := by
  refine has0 (k := 0) T.d__law_fail sc__law_fail (fun _ _ _ _ _ _ us hl => match us, hl with | [_, _, _], _ => rfl) (fun vs H Q E h => ?_) (fun f cdv A0 outer ss H vs Q XE hr h => ?_)
  · obtain ⟨ps, le, la, n, E, st, ins, asks, k, i, rfl, _⟩ := h
    rfl
  · have _z := 0
    obtain ⟨ps, le, la, n, E, st, ins, asks, k, i, rfl, hL, hEl, hk⟩ := h
    refine ⟨_, ((pss_cons (ps_expr (pe_bm PySem.F.plainAttrs_list PySem.F.slot_list_append PySem.F.type_list_append mt_append (pe_dget (hu_of hr) (pv 0) pe_str (fun _ _ => rfl)) (pa_cons (pe_tup (pa_cons pe_str (pa_cons (pv 1) (pa_cons (pv 2) pa_nil)))) pa_nil)))
      (pss_one (ps_dput (hu_of hr) (pv 0) pe_str pe_str rfl)))), ?_⟩
    obtain ⟨⟨fo, hd⟩, ⟨xs, hx, px⟩, ha, ne⟩ := id hL
    have lx := px.length
    have xp : le ≠ ps := fun z => by rw [z, hd] at hx; cases hx
    refine ⟨_, rfl, ps, .ref le, rfl, dget hd lget_events, Or.inl ⟨rfl, _, SqL.of hx⟩, _, rfl, _, rfl, by show 3 ≤ sizeLine; decide, fun t ht => ?_⟩
    have e1 := Ex.new (o := .tup [.str "error", .str k, .int i]) ht
    refine ⟨le, xs, .ref t, rfl, rfl, e1 _ _ hx, Nat.lt_of_le_of_lt (by omega : xs.length ≤ 1000) (by decide), ?_⟩
    have h1 := (hL.mono e1).push (x := .ref t) (e := .err k i) (e1 _ _ hx) ⟨t, _, rfl, upd_same, rfl⟩ (evs_mono (Tk.of e1) px)
    obtain ⟨⟨fo2, hd2⟩, _⟩ := id h1
    refine ⟨_, rfl, ps, _, rfl, dput hd2, ?_⟩
    rw [lput_state]
    exact hk _ (h1.setst hd2 "wrong") ((Kept.of e1).tr ((Kept.upd (by simp)).tr (Kept.upd (by simp))))
theorem hh__law_fail (T : Txt K w mg A) : HasH CX0 P w K mg base "_law_fail" 1 ["_law_s", "_law_kind", "_law_place"] sp__law_fail := by
  refine hasH0 (k := 0) T.d__law_fail sc__law_fail (fun _ _ _ _ _ _ us hl => match us, hl with | [_, _, _], _ => rfl) (fun vs H Q E h => ?_) (fun f cdv A0 outer ss H vs Q XE pp hr h => ?_)
  · obtain ⟨ps, le, la, n, E, st, ins, asks, k, i, rfl, _⟩ := h
    rfl
  · have _z := 1
    obtain ⟨ps, le, la, n, E, st, ins, asks, k, i, rfl, hL, hEl, hk⟩ := h
    refine ⟨_, ((pss_cons (ps_expr (pe_bm PySem.F.plainAttrs_list PySem.F.slot_list_append PySem.F.type_list_append mt_append (pe_dget (hu_ofH hr) (pv 0) pe_str (fun _ _ => rfl)) (pa_cons (pe_tup (pa_cons pe_str (pa_cons (pv 1) (pa_cons (pv 2) pa_nil)))) pa_nil)))
      (pss_one (ps_dput (hu_ofH hr) (pv 0) pe_str pe_str rfl)))), ?_⟩
    obtain ⟨⟨fo, hd⟩, ⟨xs, hx, px⟩, ha, ne⟩ := id hL
    have lx := px.length
    have xp : le ≠ ps := fun z => by rw [z, hd] at hx; cases hx
    refine ⟨_, rfl, ps, .ref le, rfl, dget hd lget_events, Or.inl ⟨rfl, _, SqL.of hx⟩, _, rfl, _, rfl, by show 3 ≤ sizeLine; decide, fun t ht => ?_⟩
    have e1 := Ex.new (o := .tup [.str "error", .str k, .int i]) ht
    refine ⟨le, xs, .ref t, rfl, rfl, e1 _ _ hx, Nat.lt_of_le_of_lt (by omega : xs.length ≤ 1000) (by decide), ?_⟩
    have h1 := (hL.mono e1).push (x := .ref t) (e := .err k i) (e1 _ _ hx) ⟨t, _, rfl, upd_same, rfl⟩ (evs_mono (Tk.of e1) px)
    obtain ⟨⟨fo2, hd2⟩, _⟩ := id h1
    refine ⟨_, rfl, ps, _, rfl, dput hd2, ?_⟩
    rw [lput_state]
    exact hk _ (h1.setst hd2 "wrong") ((Kept.of e1).tr ((Kept.upd (by simp)).tr (Kept.upd (by simp))))
end
end K32


namespace K32
open PySem PySem.Spec PyProof.Rows L2
section
variable {P : Program} {w : World} {K : PySem.W.Frag} {mg : Str → Option Value} {base : Heap} {A : Adr}
/-! ### _law_line -/
def LRes.vs (n : Nat) : LRes → List V
  | .more _ _ => [.str "more"]
  | .line o k => [.str "line", .str (lineS o), .int ((n + k : Nat) : Int)]
  | .err z k => [.str z, .int ((n + k : Nat) : Int)]
theorem ups_ups (L : LRes) (i j : Nat) : (L.ups i).ups j = L.ups (i + j) := by
  cases L with
  | more a r => rfl
  | line o k => exact congrArg (LRes.line o) (Nat.add_assoc k i j)
  | err z k => exact congrArg (LRes.err z) (Nat.add_assoc k i j)
theorem ups_0 (L : LRes) : L.ups 0 = L := by cases L <;> rfl
theorem lineS_snoc (acc : List Int) (o : Int) : lineS (acc ++ [o]) = lineS acc ++ (⟨#[chN o]⟩ : Str) := by
  show (⟨((acc ++ [o]).map chN).toArray⟩ : Str) = ⟨(acc.map chN).toArray ++ #[chN o]⟩
  rw [List.map_append]
  simp
theorem oct_no {o : Int} : octB o = false ↔ (o ≠ 9 ∧ (o < 32 ∨ 126 < o ∨ o = 37)) := by
  unfold octB
  constructor
  · intro h
    simp only [Bool.or_eq_false_iff, Bool.and_eq_false_iff, decide_eq_false_iff_not, Bool.not_eq_false', decide_eq_true_eq] at h
    omega
  · intro h
    simp only [Bool.or_eq_false_iff, Bool.and_eq_false_iff, decide_eq_false_iff_not, Bool.not_eq_false', decide_eq_true_eq]
    omega
def sp__law_line : Sp := fun vs H Q _ => ∃ (p d : Addr) (b : Bk) (os : List Int) (n : Nat), vs = [.ref p, .ref d, .int n] ∧ BookAt A H p b ∧ BkOk b ∧ H d = some (.lst (os.map V.int)) ∧ os.length ≤ 4000 ∧ n ≤ os.length ∧
  ∀ t H', H t = none → Ex H H' → H' t = some (.tup ((lineGo b.line (os.drop n) [] false).vs n)) → Q (.ref t) H'
abbrev N__law_line : List Str := ["_law_rules", "_law_data_here", "_law_at", "_law_line_here", "_law_before", "_law_signs", "_law_place", "_law_octet"]
theorem sc__law_line : FnScope N__law_line ["_law_rules", "_law_data_here", "_law_at"] (defScope s__law_line) := ⟨rfl, rfl, rfl, by decide +kernel, rfl, by decide +kernel, by decide +kernel⟩
theorem h__law_line (T : Txt K w mg A) : Has CX0 P w K mg base "_law_line" 1 ["_law_rules", "_law_data_here", "_law_at"] (sp__law_line (A := A)) := by
  refine has0 (k := 0) T.d__law_line sc__law_line (fun _ _ _ _ _ _ us hl => match us, hl with | [_, _, _], _ => rfl) (fun vs H Q E h => ?_) (fun f cdv A0 outer ss H vs Q XE hr h => ?_)
  · obtain ⟨p, d, b, os, n, rfl, _⟩ := h
    rfl
  · obtain ⟨p, d, b, os, n, rfl, ⟨dx, hb⟩, bok, hd, hol, hn, k⟩ := h
    refine ⟨_, ((pss_cons (ps_asg (pe_tup (pa_cons pe_str (pa_cons pe_int (pa_cons pe_str pa_nil)))) (pg_tup (by rfl) (pgs_cons (pg_name (i := 3) sc__law_line.nd rfl (.inl rfl)) (pgs_cons (pg_name (i := 4) sc__law_line.nd rfl (.inl rfl)) (pgs_cons (pg_name (i := 5) sc__law_line.nd rfl (.inl rfl)) pgs_nil)))))
      (pss_cons (ps_set (i := 5) sc__law_line.nd rfl (.inl rfl) (pe_op op_add_str (pv 5) pe_str))
      (pss_cons (ps_for PassesOwn.never rfl (pi_range2 (by rfl) T.b_range (pa_cons (pv 2) (pa_cons (pe_callB call_len_seq (by rfl) T.b_len PySem.boot_len (pa_cons (pv 1) pa_nil)) pa_nil))) (pg_name (i := 6) sc__law_line.nd rfl (.inl rfl))
      (pss_cons (ps_set (i := 7) sc__law_line.nd rfl (.inl rfl) (pe_ix ix_list (pv 1) (pv 6) (fun _ _ => rfl)))
      (pss_cons (ps_if (pt_cmpR op_ne (pe_cmpR op_eq (pv 4) pe_int (nomark _)) (pe_cmpR op_eq (pv 7) pe_int (nomark _)) (nomark _)) (pss_one (ps_ret (pe_tup (pa_cons pe_str (pa_cons (pv 6) pa_nil))))) pss_nil)
      (pss_cons (ps_if (pt_cmpR op_eq (pv 7) pe_int (nomark _)) (pss_one (ps_ret (pe_tup (pa_cons pe_str (pa_cons (pv 3) (pa_cons (pe_op op_add (pv 6) pe_int) pa_nil)))))) pss_nil)
      (pss_cons (ps_if (pt_cmpR op_ne (pv 7) pe_int (nomark _)) (pss_cons (ps_if (PW.pt (pw_and (pt_cmpR op_ne (pv 7) pe_int (nomark _)) (pw_and1 (PW.pt (pw_or (pt_cmpR op_lt (pv 7) pe_int (nomark _)) (pw_or (pt_cmpR op_gt (pv 7) pe_int (nomark _)) (pw_or1 (pt_cmpR op_eq (pv 7) pe_int (nomark _))))))))) (pss_one (ps_ret (pe_tup (pa_cons pe_str (pa_cons (pv 6) pa_nil))))) pss_nil)
      (pss_cons (ps_if (pt_cmpR op_eq (pe_callB call_len_str (by rfl) T.b_len PySem.boot_len (pa_cons (pv 3) pa_nil)) (pe_fld (pv 0) rfl) (nomark _)) (pss_one (ps_ret (pe_tup (pa_cons pe_str (pa_cons (pv 6) pa_nil))))) pss_nil)
      (pss_one (ps_set (i := 3) sc__law_line.nd rfl (.inl rfl) (pe_op op_add_str (pv 3) (pe_ifExp (pt_cmpR op_eq (pv 7) pe_int (nomark _)) pe_str (pe_ix ix_str (pv 5) (pe_op op_sub (pe_op op_sub (pv 7) pe_int) (pe_callTy call_int1 (by rfl) T.b_int (by decide +kernel) (pa_cons (pe_cmpR op_gt (pv 7) pe_int (nomark _)) pa_nil))) (fun _ _ => rfl)))))))) pss_nil)
      (pss_one (ps_set (i := 4) sc__law_line.nd rfl (.inl rfl) (pv 7))))))))
      (pss_one (ps_ret (pe_tup (pa_cons pe_str pa_nil)))))))), ?_⟩
    have esig : ((" !\"#$&'()*+,-./0123456789:;<=>?@" : Str) ++ ("ABCDEFGHIJKLMNOPQRSTUVWXYZ[\\]^_`abcdefghijklmnopqrstuvwxyz{|}~" : Str)) = CHARS := by decide +kernel
    refine ⟨by show 3 ≤ sizeLine; decide, fun t0 ht0 => ?_⟩
    refine ⟨t0, _, rfl, SqT.of upd_same, rfl, _, _, rfl, _, _, rfl, _, _, rfl, rfl, ?_⟩
    have e0 : Ex H (upd H t0 (.tup [.str "", .int 0, .str " !\"#$&'()*+,-./0123456789:;<=>?@"])) := Ex.new ht0
    refine ⟨_, rfl, _, _, rfl, rfl, by decide +kernel, ?_⟩
    rw [esig]
    replace hb := e0 _ _ hb
    replace hd := e0 _ _ hd
    replace k : ∀ t H', (upd H t0 (.tup [.str "", .int 0, .str " !\"#$&'()*+,-./0123456789:;<=>?@"])) t = none → Ex (upd H t0 (.tup [.str "", .int 0, .str " !\"#$&'()*+,-./0123456789:;<=>?@"])) H' → H' t = some (.tup ((lineGo b.line (os.drop n) [] false).vs n)) → Q (.ref t) H' := fun t H' h1 h2 h3 => k t H' (e0.free h1) (e0.tr h2) h3
    generalize upd H t0 (.tup [.str "", .int 0, .str " !\"#$&'()*+,-./0123456789:;<=>?@"]) = H at *
    refine ⟨_, rfl, _, rfl, d, _, rfl, Or.inl (SqL.of hd), _, _, rfl, ⟨by omega, by omega, by omega, by rw [List.length_map]; omega⟩, ?_⟩
    rw [List.length_map]
    have hlen : ((os.length : Int) - (n : Int)).toNat = os.length - n := by omega
    rw [hlen]
    have ret : ∀ L, lineGo b.line (os.drop n) [] false = L → ∀ t, H t = none → Q (.ref t) (upd H t (.tup (L.vs n))) := fun L hL t ht => k t _ ht (Ex.new ht) (by rw [hL]; exact upd_same)
    refine for_it walk_range (fun i σ H' => ∃ (acc : List Int) (bf : Int) (v6 v7 : Option V), σ = [some (.ref p), some (.ref d), some (.int n), some (.str (lineS acc)), some (.int bf), some (.str CHARS), v6, v7] ∧ H' = H ∧ (∀ x ∈ acc, octB x = true) ∧ (acc.length : Int) ≤ b.line ∧
        lineGo b.line (os.drop n) [] false = (lineGo b.line (os.drop (n + i)) acc (decide (bf = 13))).ups i)
      ⟨[], 0, none, none, rfl, rfl, (fun x hx => by cases hx), by have := bok.l1; show (0 : Int) ≤ b.line; omega, (ups_0 _).symm⟩ (fun _ _ _ _ _ => trivial) ?_ ?_
    · rintro i x σ H1 H2 hi ⟨acc, bf, v6, v7, rfl, rfl, hacc, hal, hg⟩ ⟨e, rfl⟩
      have e2 : H2 = H1 := e
      subst e2
      have hi' : n + i < os.length := by omega
      obtain ⟨o, ho⟩ : ∃ o, os[n + i]? = some o := ⟨os[n + i], List.getElem?_eq_getElem hi'⟩
      have hdr : os.drop (n + i) = o :: os.drop (n + (i + 1)) := by
        have := List.drop_eq_getElem_cons hi'
        rw [List.getElem?_eq_getElem hi'] at ho
        rw [this, Option.some.inj ho]
        rfl
      rw [hdr] at hg
      have hat : atI (os.map V.int) ((n : Int) + (i : Int)) = some (.int o) := by
        have e : (n : Int) + (i : Int) = ((n + i : Nat) : Int) := by omega
        rw [e]
        exact atI_nat (by rw [List.getElem?_map, ho]; rfl)
      have epl : (n : Int) + (i : Int) = ((n + (0 + i) : Nat) : Int) := by omega
      refine ⟨_, rfl, _, rfl, d, _, _, _, rfl, rfl, SqL.of hd, hat, ?_⟩
      refine ⟨_, rfl, rfl, _, rfl, rfl, rfl, _, rfl, ?_⟩
      rw [dec_vi, dec_vi, dec_vb]
      refine ite2 (fun h1 => ?_) (fun h1 => ?_)
      · have h1' : decide (bf = 13) ≠ decide (o = 10) := by simpa using h1
        refine ⟨_, rfl, by show 2 ≤ sizeLine; decide, fun t ht => ?_⟩
        have goal : lineGo b.line (os.drop n) [] false = .err "ending" (0 + i) → Q (.ref t) (upd H2 t (.tup [.str "ending", .int ((n : Int) + (i : Int))])) := fun z => by
          rw [epl]
          exact ret (.err "ending" (0 + i)) z t ht
        refine goal ?_
        rw [hg]
        by_cases q : bf = 13
        · have q2 : ¬ o = 10 := fun z => h1' (by rw [decide_eq_true q, decide_eq_true z])
          rw [decide_eq_true q]
          exact congrArg (LRes.ups i) (if_neg q2)
        · have q2 : o = 10 := by
            by_cases z : o = 10
            · exact z
            · exact absurd (by rw [decide_eq_false q, decide_eq_false z]) h1'
          rw [decide_eq_false q]
          exact congrArg (LRes.ups i) (if_pos q2)
      · have h1' : decide (bf = 13) = decide (o = 10) := by simpa using h1
        refine ⟨_, rfl, rfl, _, rfl, ?_⟩
        rw [dec_vi]
        refine ite2 (fun h2 => ?_) (fun h2 => ?_)
        · have h2' := of_decide_eq_true h2
          refine ⟨_, rfl, _, rfl, _, _, rfl, rfl, by show 3 ≤ sizeLine; decide, fun t ht => ?_⟩
          have e3 : (n : Int) + (i : Int) + 1 = ((n + (1 + i) : Nat) : Int) := by omega
          have goal : lineGo b.line (os.drop n) [] false = .line acc (1 + i) → Q (.ref t) (upd H2 t (.tup [.str "line", .str (lineS acc), .int ((n : Int) + (i : Int) + 1)])) := fun z => by
            rw [e3]
            exact ret (.line acc (1 + i)) z t ht
          refine goal ?_
          rw [hg, h1', h2]
          exact congrArg (LRes.ups i) (if_pos h2')
        · have h2' : ¬ o = 10 := fun z => h2 (decide_eq_true z)
          have hbf : decide (bf = 13) = false := by rw [h1', decide_eq_false h2']
          rw [hbf] at hg
          refine ⟨_, rfl, rfl, _, rfl, ?_⟩
          rw [dec_vi]
          refine ite2 (fun h3 => ?_) (fun h3 => ?_)
          · have h3' : o ≠ 13 := by simpa using h3
            have stop : ∀ z : Str, (lineGo b.line (o :: os.drop (n + (i + 1))) acc false = .err z 0) → ∀ t, H2 t = none → Q (.ref t) (upd H2 t (.tup [.str z, .int ((n : Int) + (i : Int))])) := fun z hz t ht => by
              rw [epl]
              refine ret (.err z (0 + i)) ?_ t ht
              rw [hg, hz]
              rfl
            have bad : octB o = false → ∀ t, H2 t = none → Q (.ref t) (upd H2 t (.tup [.str "octet", .int ((n : Int) + (i : Int))])) := fun ho2 => stop "octet" ((if_neg h2').trans ((if_neg h3').trans (if_pos ho2)))
            by_cases ho : octB o = false
            · have hno := oct_no.mp ho
              refine ⟨_, rfl, rfl, _, rfl, ?_⟩
              rw [dec_vi]
              refine ite2 (fun _ => ?_) (fun z => absurd (by simpa using hno.1) z)
              refine ⟨_, rfl, _, _, rfl, rfl, _, rfl, ?_⟩
              refine ite2 (fun _ => ⟨_, rfl, by show 2 ≤ sizeLine; decide, bad ho⟩) (fun g1 => ?_)
              refine ⟨_, rfl, _, _, rfl, rfl, _, rfl, ?_⟩
              refine ite2 (fun _ => ⟨_, rfl, by show 2 ≤ sizeLine; decide, bad ho⟩) (fun g2 => ?_)
              refine ⟨_, rfl, rfl, _, rfl, ?_⟩
              rw [dec_vi]
              refine ite2 (fun _ => ⟨_, rfl, by show 2 ≤ sizeLine; decide, bad ho⟩) (fun g3 => ?_)
              rw [decide_eq_true_eq] at g1 g2 g3
              omega
            · have hyes : ¬ (o ≠ 9 ∧ (o < 32 ∨ 126 < o ∨ o = 37)) := fun z => ho (oct_no.mpr z)
              by_cases h9 : o = 9
              · refine ⟨_, rfl, rfl, _, rfl, ?_⟩
                rw [dec_vi]
                refine ite2 (fun z => absurd h9 (by simpa using z)) (fun _ => ?_)
                refine ⟨_, rfl, lineS acc, rfl, small (by rw [lineS_len]; have := bok.l2; omega), _, rfl, p, A.BK, dx, _, _, rfl, hb, T.cl_Book, T.n_Book_most_line, bfs_most_line b, rfl, _, rfl, ?_⟩
                rw [dec_vi, lineS_len]
                refine ite2 (fun g1 => ?_) (fun g1 => ?_)
                · refine ⟨_, rfl, by show 2 ≤ sizeLine; decide, fun t ht => ?_⟩
                  exact stop "long" ((if_neg h2').trans ((if_neg h3').trans ((if_neg ho).trans (if_pos (of_decide_eq_true g1))))) t ht
                · have g1' : ¬ (acc.length : Int) = b.line := fun z => g1 (decide_eq_true z)
                  have fin : (∀ x ∈ acc ++ [o], octB x = true) ∧ ((acc ++ [o]).length : Int) ≤ b.line ∧ lineGo b.line (os.drop n) [] false = (lineGo b.line (os.drop (n + (i + 1))) (acc ++ [o]) (decide (o = 13))).ups (i + 1) := by
                    refine ⟨fun x hx => ?_, ?_, ?_⟩
                    · rcases List.mem_append.mp hx with h | h
                      · exact hacc x h
                      · rw [List.mem_singleton.mp h]
                        simpa using ho
                    · rw [List.length_append]
                      show ((acc.length + 1 : Nat) : Int) ≤ b.line
                      omega
                    · rw [hg, decide_eq_false h3']
                      have e4 : lineGo b.line (o :: os.drop (n + (i + 1))) acc false = (lineGo b.line (os.drop (n + (i + 1))) (acc ++ [o]) false).ups 1 := (if_neg h2').trans ((if_neg h3').trans ((if_neg ho).trans (if_neg g1')))
                      rw [e4, ups_ups, Nat.add_comm 1 i]
                  refine ⟨_, rfl, _, rfl, rfl, _, rfl, ?_⟩
                  rw [dec_vi, decide_eq_true h9]
                  refine iteT ⟨_, _, rfl, rfl, ?_, _, rfl, acc ++ [o], o, some (.int ((n : Int) + (i : Int))), some (.int o), ?_, rfl, fin⟩
                  · rw [lineS_len]
                    show acc.length + 1 ≤ sizeLine
                    have := bok.l2
                    exact small (by omega)
                  · have el : lineS (acc ++ [o]) = lineS acc ++ (" " : Str) := by
                      rw [lineS_snoc, h9]
                      rfl
                    rw [el]
                    rfl
              · have hi : octB o = true := by simpa using ho
                refine ⟨_, rfl, rfl, _, rfl, ?_⟩
                rw [dec_vi]
                refine ite2 (fun _ => ?_) (fun z => absurd (by simpa using h9) z)
                refine ⟨_, rfl, _, _, rfl, rfl, _, rfl, ?_⟩
                refine ite2 (fun g1 => ?_) (fun g1 => ?_)
                · rw [decide_eq_true_eq] at g1
                  omega
                refine ⟨_, rfl, _, _, rfl, rfl, _, rfl, ?_⟩
                refine ite2 (fun g2 => ?_) (fun g2 => ?_)
                · rw [decide_eq_true_eq] at g2
                  omega
                refine ⟨_, rfl, rfl, _, rfl, ?_⟩
                rw [dec_vi]
                refine ite2 (fun g3 => ?_) (fun g3 => ?_)
                · rw [decide_eq_true_eq] at g3
                  omega
                refine ⟨_, rfl, lineS acc, rfl, small (by rw [lineS_len]; have := bok.l2; omega), _, rfl, p, A.BK, dx, _, _, rfl, hb, T.cl_Book, T.n_Book_most_line, bfs_most_line b, rfl, _, rfl, ?_⟩
                rw [dec_vi, lineS_len]
                refine ite2 (fun g1 => ?_) (fun g1 => ?_)
                · refine ⟨_, rfl, by show 2 ≤ sizeLine; decide, fun t ht => ?_⟩
                  exact stop "long" ((if_neg h2').trans ((if_neg h3').trans ((if_neg ho).trans (if_pos (of_decide_eq_true g1))))) t ht
                · have g1' : ¬ (acc.length : Int) = b.line := fun z => g1 (decide_eq_true z)
                  have fin : (∀ x ∈ acc ++ [o], octB x = true) ∧ ((acc ++ [o]).length : Int) ≤ b.line ∧ lineGo b.line (os.drop n) [] false = (lineGo b.line (os.drop (n + (i + 1))) (acc ++ [o]) (decide (o = 13))).ups (i + 1) := by
                    refine ⟨fun x hx => ?_, ?_, ?_⟩
                    · rcases List.mem_append.mp hx with h | h
                      · exact hacc x h
                      · rw [List.mem_singleton.mp h]
                        simpa using ho
                    · rw [List.length_append]
                      show ((acc.length + 1 : Nat) : Int) ≤ b.line
                      omega
                    · rw [hg, decide_eq_false h3']
                      have e4 : lineGo b.line (o :: os.drop (n + (i + 1))) acc false = (lineGo b.line (os.drop (n + (i + 1))) (acc ++ [o]) false).ups 1 := (if_neg h2').trans ((if_neg h3').trans ((if_neg ho).trans (if_neg g1')))
                      rw [e4, ups_ups, Nat.add_comm 1 i]
                  refine ⟨_, rfl, _, rfl, rfl, _, rfl, ?_⟩
                  rw [dec_vi, decide_eq_false h9]
                  refine iteF ?_
                  refine ⟨_, rfl, _, rfl, _, _, rfl, rfl, _, rfl, _, _, rfl, rfl, Or.inr ⟨_, rfl, _, _, rfl, rfl, _, _, _, rfl, rfl, (by decide +kernel), chars_atI hi h9, _, _, rfl, rfl, ?_, _, rfl, acc ++ [o], o, some (.int ((n : Int) + (i : Int))), some (.int o), ?_, rfl, fin⟩⟩
                  · rw [lineS_len]
                    show acc.length + 1 ≤ sizeLine
                    have := bok.l2
                    exact small (by omega)
                  · rw [lineS_snoc]
                    rfl
          · have h3' : o = 13 := by simpa using h3
            refine ⟨_, rfl, acc, o, _, _, rfl, rfl, hacc, hal, ?_⟩
            rw [hg, decide_eq_true h3']
            have e4 : lineGo b.line (o :: os.drop (n + (i + 1))) acc false = (lineGo b.line (os.drop (n + (i + 1))) acc true).ups 1 := (if_neg h2').trans (if_pos h3')
            rw [e4, ups_ups, Nat.add_comm 1 i]
    · rintro σ H' ⟨acc, bf, v6, v7, rfl, rfl, hacc, hal, hg⟩
      refine ⟨by show 1 ≤ sizeLine; decide, fun t ht => ?_⟩
      refine ret (.more acc (decide (bf = 13))) ?_ t ht
      rw [hg, List.drop_eq_nil_of_le (by omega)]
      rfl
end
end K32


namespace K32
open PySem PySem.Spec PyProof.Rows L2
section
variable {P : Program} {w : World} {K : PySem.W.Frag} {mg : Str → Option Value} {base : Heap} {A : Adr}
/-! ### _law_start, _law_field, _law_frame -/
def sp__law_start : Sp := fun vs H Q _ => ∃ (kd z : Str), vs = [.str kd, .str z] ∧ okS z ∧ z.length ≤ 300 ∧
  (∀ st t H', mStart kd z = .ok st → H t = none → Ex H H' → H' t = some (.tup st.vs) → Q (.ref t) H') ∧ (∀ k H', mStart kd z = .error k → Ex H H' → Q (.str k) H')
abbrev N__law_start : List Str := ["_law_kind", "_law_line_here", "e"]
theorem sc__law_start : FnScope N__law_start ["_law_kind", "_law_line_here"] (defScope s__law_start) := ⟨rfl, rfl, rfl, by decide +kernel, rfl, by decide +kernel, by decide +kernel⟩
theorem h__law_start (T : Txt K w mg A) : Has CX0 P w K mg base "_law_start" 5 ["_law_kind", "_law_line_here"] sp__law_start := by
  refine has0 (k := 4) T.d__law_start sc__law_start (fun _ _ _ _ _ _ us hl => match us, hl with | [_, _], _ => rfl) (fun vs H Q E h => ?_) (fun f cdv A0 outer ss H vs Q XE hr h => ?_)
  · obtain ⟨kd, z, rfl, _⟩ := h
    rfl
  · obtain ⟨kd, z, rfl, hz, hl, k1, k2⟩ := h
    refine ⟨_, ((pss_one (L2N.ps_try_as (i := 2) rfl rfl sc__law_start.nd rfl rfl ⟨rfl, by decide, Or.inl T.g_BadLine⟩ takesN
      (fun W pn xe tk _ => (pss_one (ps_ret (pe_ifExp (pt_cmpR op_eq (pv 0) pe_str (nomark _)) (pe_fn (h_read_request T) (hr.mono (by decide)) (fun σ => L2N.passAt tk σ) (pa_cons (pv 1) pa_nil)) (pe_fn (h_read_status T) (hr.mono (by decide)) (fun σ => L2N.passAt tk σ) (pa_cons (pv 1) pa_nil))))))
      (fun a oe cls d pn hz hf => (pss_one (ps_ret (pe_xf (xf_BadLine T).1 (xf_BadLine T).2 hz.zc hf (pv 2)))))))), ?_⟩
    refine ⟨_, rfl, rfl, _, rfl, ?_⟩
    rw [dec_vs]
    refine ite2 (fun h1 => ?_) (fun h1 => ?_)
    · have h1' := of_decide_eq_true h1
      have es : mStart kd z = (match mReq z with | .ok (a, c, v) => .ok (.req a c v) | .error k => .error k) := if_pos h1'
      refine ⟨_, rfl, z, rfl, hz, hl, fun a c v t H' hm ht e hx => k1 (.req a c v) t H' (by rw [es, hm]) ht e hx, fun k hm d H' hd e hx => ?_⟩
      refine ⟨true, T.x_LL, fun _ a ha => ?_, fun z => by cases z⟩
      exact ⟨_, rfl, rfl, rfl, d, _, _, rfl, hx, rfl, k2 k H' (by rw [es, hm]) e⟩
    · have h1' : ¬ kd = REQS := fun q => h1 (decide_eq_true q)
      have es : mStart kd z = (match mSta z with | .ok (a, c, v) => .ok (.sta a c v) | .error k => .error k) := if_neg h1'
      refine ⟨_, rfl, z, rfl, hz, hl, fun a c v t H' hm ht e hx => k1 (.sta a c v) t H' (by rw [es, hm]) ht e hx, fun k hm d H' hd e hx => ?_⟩
      refine ⟨true, T.x_LL, fun _ a ha => ?_, fun z => by cases z⟩
      exact ⟨_, rfl, rfl, rfl, d, _, _, rfl, hx, rfl, k2 k H' (by rw [es, hm]) e⟩
def sp__law_field : Sp := fun vs H Q _ => ∃ z : Str, vs = [.str z] ∧ okS z ∧ z.length ≤ 300 ∧
  (∀ f t H', mField z = some f → H t = none → Ex H H' → H' t = some (.tup [.str f.1, .str f.2]) → Q (.ref t) H') ∧ (∀ H', mField z = none → Ex H H' → Q (.str "field") H')
abbrev N__law_field : List Str := ["_law_line_here", "e"]
theorem sc__law_field : FnScope N__law_field ["_law_line_here"] (defScope s__law_field) := ⟨rfl, rfl, rfl, by decide +kernel, rfl, by decide +kernel, by decide +kernel⟩
theorem h__law_field (T : Txt K w mg A) : Has CX0 P w K mg base "_law_field" 4 ["_law_line_here"] sp__law_field := by
  refine has0 (k := 3) T.d__law_field sc__law_field (fun _ _ _ _ _ _ us hl => match us, hl with | [_], _ => rfl) (fun vs H Q E h => ?_) (fun f cdv A0 outer ss H vs Q XE hr h => ?_)
  · obtain ⟨z, rfl, _⟩ := h
    rfl
  · obtain ⟨z, rfl, hz, hl, k1, k2⟩ := h
    refine ⟨_, ((pss_one (L2N.ps_try_as (i := 1) rfl rfl sc__law_field.nd rfl rfl ⟨rfl, by decide, Or.inl T.g_BadLine⟩ takesN
      (fun W pn xe tk _ => (pss_one (ps_ret (pe_fn (h_read_field T) (hr.mono (by decide)) (fun σ => L2N.passAt tk σ) (pa_cons (pv 0) pa_nil)))))
      (fun a oe cls d pn hz hf => (pss_one (ps_ret (pe_xf (xf_BadLine T).1 (xf_BadLine T).2 hz.zc hf (pv 1)))))))), ?_⟩
    refine ⟨_, rfl, z, rfl, hz, hl, k1, fun hm d H' hd e hx => ?_⟩
    refine ⟨true, T.x_LL, fun _ a ha => ?_, fun z => by cases z⟩
    exact ⟨_, rfl, rfl, rfl, d, _, _, rfl, hx, rfl, k2 H' hm e⟩
def sp__law_frame : Sp := fun vs H Q _ => ∃ (kd : Str) (p t f : Addr) (b : Bk) (st : Stt) (fs : List Fld) (x : V) (m : Ask), vs = [.str kd, .ref p, .ref t, .ref f, x] ∧ BookAt A H p b ∧ BkOk b ∧ H t = some (.tup st.vs) ∧ StOk kd st ∧ FT H f fs ∧ OkFs fs ∧ (kd = RESPS → AskAt H x m) ∧
  (∀ fr q H', headFr kd b st fs m = .ok fr → H q = none → Ex H H' → H' q = some (.tup fr.v) → Q (.ref q) H') ∧ (∀ k H', headFr kd b st fs m = .error k → Ex H H' → Q (.str k) H')
abbrev N__law_frame : List Str := ["_law_kind", "_law_rules", "_law_start_here", "_law_fields_here", "_law_asked", "e"]
theorem sc__law_frame : FnScope N__law_frame ["_law_kind", "_law_rules", "_law_start_here", "_law_fields_here", "_law_asked"] (defScope s__law_frame) := ⟨rfl, rfl, rfl, by decide +kernel, rfl, by decide +kernel, by decide +kernel⟩
theorem h__law_frame (T : Txt K w mg A) : Has CX0 P w K mg base "_law_frame" 5 ["_law_kind", "_law_rules", "_law_start_here", "_law_fields_here", "_law_asked"] (sp__law_frame (A := A)) := by
  refine has0 (k := 4) T.d__law_frame sc__law_frame (fun _ _ _ _ _ _ us hl => match us, hl with | [_, _, _, _, _], _ => rfl) (fun vs H Q E h => ?_) (fun ff cdv A0 outer ss H vs Q XE hr h => ?_)
  · obtain ⟨kd, p, t, f, b, st, fs, x, m, rfl, _⟩ := h
    rfl
  · obtain ⟨kd, p, t, f, b, st, fs, x, m, rfl, hb, bok, ht, hst, hf, hok, hm, k1, k2⟩ := h
    refine ⟨_, ((pss_one (L2N.ps_try_as (i := 5) rfl rfl sc__law_frame.nd rfl rfl ⟨rfl, by decide, Or.inl T.g_BadFrame⟩ takesN
      (fun W pn xe tk _ => (pss_cons (ps_if (pt_cmpR op_eq (pv 0) pe_str (nomark _)) (pss_one (ps_ret (pe_fnK (h_request_frame T) (hr.mono (by decide)) (fun σ => L2N.passAt tk σ) (pa_cons (pe_ix (show IxR _ (rIxT K) from ix_tup) (pv 2) pe_int (fun _ _ => rfl)) (pa_cons (pv 3) pa_nil)) (pk_cons (pv 1) pk_nil)))) pss_nil)
      (pss_one (ps_ret (pe_fnK (h_response_frame T) (hr.mono (by decide)) (fun σ => L2N.passAt tk σ) (pa_cons (pe_ix (show IxR _ (rIxT K) from ix_tup) (pv 2) pe_int (fun _ _ => rfl)) (pa_cons (pe_ix (show IxR _ (rIxT K) from ix_tup) (pv 2) pe_int (fun _ _ => rfl)) (pa_cons (pv 3) pa_nil))) (pk_cons (pe_ix (show IxR _ (rIxT K) from ix_tup) (pv 4) pe_int (fun _ _ => rfl)) (pk_cons (pe_ix (show IxR _ (rIxT K) from ix_tup) (pv 4) pe_int (fun _ _ => rfl)) (pk_cons (pv 1) pk_nil))))))))
      (fun a oe cls d pn hz hf => (pss_one (ps_ret (pe_xf (xf_BadFrame T).1 (xf_BadFrame T).2 hz.zc hf (pv 5)))))))), ?_⟩
    refine ⟨_, rfl, rfl, _, rfl, ?_⟩
    rw [dec_vs]
    refine ite2 (fun h1 => ?_) (fun h1 => ?_)
    · have h1' := of_decide_eq_true h1
      obtain ⟨a, c, v, rfl⟩ : ∃ a c v, st = .req a c v := by
        cases st with
        | no => exact hst.elim
        | req a c v => exact ⟨a, c, v, rfl⟩
        | sta a c v => exact absurd (hst.symm.trans h1') kinds_ne
      have es : headFr kd b (.req a c v) fs m = reqFr v fs b := if_pos h1'
      refine ⟨_, rfl, t, _, _, _, rfl, rfl, SqT.of ht, rfl, _, rfl, _, rfl, rfl, rfl, v, f, p, fs, b, rfl, hf, hok, hb, bok, fun fr q H' hfe hq e hx => k1 fr q H' (by rw [es]; exact hfe) hq e hx, fun k hke d H' hd e hx => ?_⟩
      refine ⟨true, T.x_FF, fun _ a ha => ?_, fun z => by cases z⟩
      exact ⟨_, rfl, rfl, rfl, d, _, _, rfl, hx, rfl, k2 k H' (by rw [es]; exact hke) e⟩
    · have h1' : ¬ kd = REQS := fun q => h1 (decide_eq_true q)
      obtain ⟨a, c, v, rfl⟩ : ∃ a c v, st = .sta a c v := by
        cases st with
        | no => exact hst.elim
        | req a c v => exact absurd hst h1'
        | sta a c v => exact ⟨a, c, v, rfl⟩
      obtain ⟨ma, rfl, hma⟩ := hm hst
      have es : headFr kd b (.sta a c v) fs m = respFr a v fs b m.method m.up := if_neg h1'
      refine ⟨_, rfl, t, _, _, _, rfl, rfl, SqT.of ht, rfl, _, rfl, t, _, _, _, rfl, rfl, SqT.of ht, rfl, _, rfl, _, rfl, ma, _, _, _, rfl, rfl, SqT.of hma, rfl, _, rfl, ma, _, _, _, rfl, rfl, SqT.of hma, rfl, _, rfl, rfl, rfl, a, v, f, p, fs, b, m.method, m.up, rfl, hf, hok, hb, bok, fun fr q H' hfe hq e hx => k1 fr q H' (by rw [es]; exact hfe) hq e hx, fun k hke d H' hd e hx => ?_⟩
      refine ⟨true, T.x_FF, fun _ a ha => ?_, fun z => by cases z⟩
      exact ⟨_, rfl, rfl, rfl, d, _, _, rfl, hx, rfl, k2 k H' (by rw [es]; exact hke) e⟩
end
end K32


namespace K32
open PySem PySem.Spec PyProof.Rows L2
section
variable {X : Cx}
/-- t != () -/
def rNilT (K : PySem.W.Frag) : R2 := fun x y H Q => ∃ p q xs, x = .ref p ∧ y = .ref q ∧ SqT K H p xs ∧ H q = some (.tup []) ∧ Q (.bl (!xs.isEmpty)) H
theorem op_neNilT (hu : X.A.units + 64 < cLine) : OpR X (compareOp .NotEq) (rNilT X.K) := by
  intro pins s σ H x y v u Q I rx ry h
  obtain ⟨p, q, xs, rfl, rfl, hp, hq, k⟩ := h
  obtain rfl : v = Value.ref p := rx
  obtain rfl : u = Value.ref q := ry
  obtain ⟨i1, r1, p1, _⟩ := I.tuple hp
  obtain ⟨i2, r2, p2, _⟩ := I.tuple (SqT.of hq)
  have z2 : i2.toArray.size = 0 := sq_size r2
  have z1 := sq_size r1
  have lt : X.A.units < cLine := by omega
  refine SeqAt.RcNeAt.tuples (e := fun _ => true) p1 p2 lt (fun j h1 h2 => absurd h2 (by omega)) X.prog X.w X.xe _ ⟨.bl _, H, I, rfl, ?_⟩
  rw [z1, z2]
  cases xs with
  | nil => exact k
  | cons a r =>
    have e : (!((List.range (min (a :: r).length 0)).all (fun _ => true) && ((a :: r).length == 0))) = (!(a :: r).isEmpty) := by simp
    rw [e]
    exact k
end
section
variable {P : Program} {w : World} {K : PySem.W.Frag} {mg : Str → Option Value} {base : Heap} {A : Adr}
/-! ### _law_next_line -/
/-- what all of the law's own reader is given -/
structure LCx (A : Adr) (H : Hp) (ps le la p d : Addr) (b : Bk) (os : List Int) : Prop where
  bk : BookAt A H p b
  ok : BkOk b
  dat : H d = some (.lst (os.map V.int))
  d1 : d ≠ le
  d2 : d ≠ la
  ol : os.length ≤ 200
theorem LCx.keep {H H' : Hp} {ps le la p d : Addr} {b : Bk} {os : List Int} {n : Int} {E : List Evt} {st ins : Str} {asks : List Ask} (c : LCx A H ps le la p d b os) (h : LSt H ps le la n E st ins asks) (k : Kept (ownL ps le la) H H') : LCx A H' ps le la p d b os := by
  obtain ⟨fo, hd⟩ := h.at_
  refine ⟨h.book k c.bk, c.ok, k d _ c.dat (fun z => ?_), c.d1, c.d2, c.ol⟩
  simp only [List.mem_cons, List.not_mem_nil, or_false] at z
  rcases z with z | z | z
  · have := c.dat
    rw [z, hd] at this
    cases this
  · exact c.d1 z
  · exact c.d2 z
theorem LCx.mono {H H' : Hp} {ps le la p d : Addr} {b : Bk} {os : List Int} (c : LCx A H ps le la p d b os) (e : Ex H H') : LCx A H' ps le la p d b os := ⟨c.bk.mono e, c.ok, e _ _ c.dat, c.d1, c.d2, c.ol⟩
/-- the law's state behind some code -/
def LK (ps le la : Addr) (n : Int) (E : List Evt) (st ins : Str) (asks : List Ask) (H H' : Hp) : Prop := LSt H' ps le la n E st ins asks ∧ Kept (ownL ps le la) H H'
theorem LK.tr {ps le la : Addr} {n n2 : Int} {E E2 : List Evt} {st ins st2 ins2 : Str} {asks asks2 : List Ask} {H H1 H2 : Hp} (a : LK ps le la n E st ins asks H H1) (b : LK ps le la n2 E2 st2 ins2 asks2 H1 H2) : LK ps le la n2 E2 st2 ins2 asks2 H H2 := ⟨b.1, a.2.tr b.2⟩
theorem LK.here {ps le la : Addr} {n : Int} {E : List Evt} {st ins : Str} {asks : List Ask} {H : Hp} (h : LSt H ps le la n E st ins asks) : LK ps le la n E st ins asks H H := ⟨h, Kept.rfl'⟩
theorem LK.ex {ps le la : Addr} {n : Int} {E : List Evt} {st ins : Str} {asks : List Ask} {H H1 H2 : Hp} (a : LK ps le la n E st ins asks H H1) (e : Ex H1 H2) : LK ps le la n E st ins asks H H2 := ⟨a.1.mono e, a.2.tr (Kept.of e)⟩
theorem LK.dict {ps le la : Addr} {n : Int} {E : List Evt} {st ins : Str} {asks : List Ask} {H H1 : Hp} (a : LK ps le la n E st ins asks H H1) {fo : Option V} (hd : H1 ps = some (.dK (lsk n le st ins la fo))) (n2 : Int) (st2 ins2 : Str) (fo2 : Option V) : LK ps le la n2 E st2 ins2 asks H (upd H1 ps (.dK (lsk n2 le st2 ins2 la fo2))) :=
  ⟨a.1.dict hd n2 st2 ins2 fo2, a.2.tr (Kept.upd (by simp))⟩
def sp__law_next_line : Sp := fun vs H Q _ => ∃ (ps le la p d : Addr) (b : Bk) (os : List Int) (n : Nat) (E : List Evt) (st ins : Str) (asks : List Ask), vs = [.ref ps, .ref p, .ref d] ∧ LSt H ps le la n E st ins asks ∧ LCx A H ps le la p d b os ∧ n ≤ os.length ∧ E.length ≤ 1000 ∧
  (∀ octs k H', lineGo b.line (os.drop n) [] false = .line octs k → LK ps le la ((n + k : Nat) : Int) E st ins asks H H' → Q (.str (lineS octs)) H') ∧
  (∀ a r H', lineGo b.line (os.drop n) [] false = .more a r → LK ps le la n E st "some" asks H H' → Q .non H') ∧
  (∀ z k H', lineGo b.line (os.drop n) [] false = .err z k → LK ps le la n (E ++ [.err z ((n + k : Nat) : Int)]) "wrong" ins asks H H' → Q .non H')
abbrev N__law_next_line : List Str := ["_law_s", "_law_rules", "_law_data_here", "_law_told"]
theorem sc__law_next_line : FnScope N__law_next_line ["_law_s", "_law_rules", "_law_data_here"] (defScope s__law_next_line) := ⟨rfl, rfl, rfl, by decide +kernel, rfl, by decide +kernel, by decide +kernel⟩
theorem lineGo_err (m : Int) : ∀ (rest acc : List Int) (r : Bool) (z : Str) (k : Nat), lineGo m rest acc r = .err z k → z = "ending" ∨ z = "octet" ∨ z = "long"
  | [], acc, r, z, k, h => by cases h
  | o :: rest, acc, true, z, k, h => by
    by_cases h10 : o = 10
    · rw [show lineGo m (o :: rest) acc true = .line acc 1 from if_pos h10] at h
      cases h
    · rw [show lineGo m (o :: rest) acc true = .err "ending" 0 from if_neg h10] at h
      cases h
      exact .inl rfl
  | o :: rest, acc, false, z, k, h => by
    have up : ∀ L : LRes, L.ups 1 = .err z k → ∃ k', L = .err z k' := fun L hL => by
      cases L with
      | more a r => cases hL
      | line a r => cases hL
      | err z' k' =>
        injection hL with h1 h2
        subst h1
        exact ⟨k', rfl⟩
    by_cases h10 : o = 10
    · rw [show lineGo m (o :: rest) acc false = .err "ending" 0 from if_pos h10] at h
      cases h
      exact .inl rfl
    · by_cases h13 : o = 13
      · rw [show lineGo m (o :: rest) acc false = (lineGo m rest acc true).ups 1 from (if_neg h10).trans (if_pos h13)] at h
        obtain ⟨k', hk⟩ := up _ h
        exact lineGo_err m rest acc true z k' hk
      · by_cases ho : octB o = false
        · rw [show lineGo m (o :: rest) acc false = .err "octet" 0 from (if_neg h10).trans ((if_neg h13).trans (if_pos ho))] at h
          cases h
          exact .inr (.inl rfl)
        · by_cases hl : (acc.length : Int) = m
          · rw [show lineGo m (o :: rest) acc false = .err "long" 0 from (if_neg h10).trans ((if_neg h13).trans ((if_neg ho).trans (if_pos hl)))] at h
            cases h
            exact .inr (.inr rfl)
          · rw [show lineGo m (o :: rest) acc false = (lineGo m rest (acc ++ [o]) false).ups 1 from (if_neg h10).trans ((if_neg h13).trans ((if_neg ho).trans (if_neg hl)))] at h
            obtain ⟨k', hk⟩ := up _ h
            exact lineGo_err m rest _ false z k' hk
theorem err_names {z : Str} (h : z = "ending" ∨ z = "octet" ∨ z = "long") : ¬ z = "line" ∧ ¬ z = "more" := by
  rcases h with rfl | rfl | rfl <;> decide +kernel
theorem h__law_next_line (T : Txt K w mg A) : Has CX0 P w K mg base "_law_next_line" 2 ["_law_s", "_law_rules", "_law_data_here"] (sp__law_next_line (A := A)) := by
  refine has0 (k := 1) T.d__law_next_line sc__law_next_line (fun _ _ _ _ _ _ us hl => match us, hl with | [_, _, _], _ => rfl) (fun vs H Q E h => ?_) (fun f cdv A0 outer ss H vs Q XE hr h => ?_)
  · obtain ⟨ps, le, la, p, d, b, os, n, E, st, ins, asks, rfl, _⟩ := h
    rfl
  · obtain ⟨ps, le, la, p, d, b, os, n, E, st, ins, asks, rfl, hL, hC, hn, hE, k1, k2, k3⟩ := h
    obtain ⟨fo, hd⟩ := hL.at_
    refine ⟨_, ((pss_cons (ps_set (i := 3) sc__law_next_line.nd rfl (.inl rfl) (pe_fn (h__law_line T) (hr.mono (by decide)) paN (pa_cons (pv 1) (pa_cons (pv 2) (pa_cons (pe_dget (hu_of hr) (pv 0) pe_str (fun _ _ => rfl)) pa_nil)))))
      (pss_cons (ps_if (pt_cmpR op_eq (pe_ix ix_tup (pv 3) pe_int (fun _ _ => rfl)) pe_str (nomark _)) (pss_cons (ps_dput (hu_of hr) (pv 0) pe_str (pe_ix ix_tup (pv 3) pe_int (fun _ _ => rfl)) rfl)
      (pss_one (ps_ret (pe_ix ix_tup (pv 3) pe_int (fun _ _ => rfl))))) pss_nil)
      (pss_cons (ps_if (pt_cmpR op_eq (pe_ix ix_tup (pv 3) pe_int (fun _ _ => rfl)) pe_str (nomark _)) (pss_one (ps_dput (hu_of hr) (pv 0) pe_str pe_str rfl)) (pss_one (ps_expr (pe_fn (h__law_fail T) (hr.mono (by decide)) paN (pa_cons (pv 0) (pa_cons (pe_ix ix_tup (pv 3) pe_int (fun _ _ => rfl)) (pa_cons (pe_ix ix_tup (pv 3) pe_int (fun _ _ => rfl)) pa_nil)))))))
      (pss_one (ps_ret pe_non)))))), ?_⟩
    have ol := hC.ol
    refine ⟨_, rfl, _, rfl, _, rfl, ps, .int n, rfl, dget hd lget_at, p, d, b, os, n, rfl, hC.bk, hC.ok, hC.dat, by omega, hn, fun t H1 ht e1 hx => ?_⟩
    have l1 := (LK.here hL).ex e1
    obtain ⟨fo1, hd1⟩ := l1.1.at_
    have lok := lineGo_ok b.line (os.drop n) [] false (fun x hx => by cases hx) (by have := hC.ok.l1; show (0 : Int) ≤ b.line; omega)
    cases q : lineGo b.line (os.drop n) [] false with
    | line octs kk =>
      rw [q] at hx
      refine ⟨_, rfl, t, _, _, _, rfl, rfl, SqT.of hx, at0 _ _, rfl, _, rfl, iteT ?_⟩
      refine ⟨_, rfl, t, _, _, _, rfl, rfl, SqT.of hx, rfl, _, rfl, ps, _, rfl, dput hd1, ?_⟩
      rw [lput_at]
      have tp : t ≠ ps := fun z => by rw [z, hd1] at hx; cases hx
      refine ⟨_, rfl, t, _, _, _, rfl, rfl, SqT.of ((upd_ne tp).trans hx), at1 _ _ _, ?_⟩
      exact k1 octs kk _ q (l1.dict hd1 _ st ins fo1)
    | more a r =>
      rw [q] at hx
      refine ⟨_, rfl, t, _, _, _, rfl, rfl, SqT.of hx, at0 _ _, rfl, _, rfl, iteF ?_⟩
      refine ⟨_, rfl, t, _, _, _, rfl, rfl, SqT.of hx, at0 _ _, rfl, _, rfl, iteT ?_⟩
      refine ⟨_, rfl, ps, _, rfl, dput hd1, ?_⟩
      rw [lput_inside]
      exact k2 a r _ q (l1.dict hd1 _ st "some" fo1)
    | err z kk =>
      rw [q] at hx lok
      obtain ⟨z1, z2⟩ := err_names (lineGo_err _ _ _ _ _ _ q)
      refine ⟨_, rfl, t, _, _, _, rfl, rfl, SqT.of hx, at0 _ _, rfl, _, rfl, ?_⟩
      rw [dec_vs, decide_eq_false z1]
      refine iteF ?_
      refine ⟨_, rfl, t, _, _, _, rfl, rfl, SqT.of hx, at0 _ _, rfl, _, rfl, ?_⟩
      rw [dec_vs, decide_eq_false z2]
      refine iteF ?_
      refine ⟨_, rfl, _, rfl, t, _, _, _, rfl, rfl, SqT.of hx, at0 _ _, _, rfl, t, _, _, _, rfl, rfl, SqT.of hx, at1 _ _ _, ps, le, la, n, E, st, ins, asks, z, _, rfl, l1.1, hE, fun H2 g1 g2 => ?_⟩
      exact k3 z kk _ q (l1.tr ⟨g1, g2⟩)
/-! ### _law_data -/
theorem cut_ints (os : List Int) (n : Nat) (z : Int) (hz : 0 ≤ z) (hn : n ≤ os.length) : cutV (os.map V.int) (some (n : Int)) (some ((n : Int) + z)) = ((os.drop n).take z.toNat).map V.int := by
  unfold cutV
  have e1 : HT.sIx (os.map V.int).length 0 (some (n : Int)) = n := by
    rw [HT.sIx_nat, List.length_map]
    omega
  have e2 : HT.sIx (os.map V.int).length (os.map V.int).length (some ((n : Int) + z)) = min (n + z.toNat) os.length := by
    have e3 : (n : Int) + z = ((n + z.toNat : Nat) : Int) := by omega
    rw [e3, HT.sIx_nat, List.length_map]
  rw [e1, e2, List.map_take, List.map_drop]
  have e4 : ∀ l : List V, l.length = os.length → (l.drop n).take (min (n + z.toNat) os.length - n) = (l.drop n).take z.toNat := fun l hl => by
    by_cases h : n + z.toNat ≤ os.length
    · rw [Nat.min_eq_left h, Nat.add_sub_cancel_left]
    · rw [Nat.min_eq_right (by omega)]
      rw [List.take_of_length_le (by rw [List.length_drop]; omega), List.take_of_length_le (by rw [List.length_drop]; omega)]
  exact e4 _ (List.length_map _)
/-- a run of octets as an event, none if there is none -/
def dataE (x : List Int) : List Evt := if x = [] then [] else [.run "data" x]
def sp__law_data : Sp := fun vs H Q _ => ∃ (ps le la d : Addr) (os : List Int) (n : Nat) (E : List Evt) (st ins : Str) (asks : List Ask) (z : Int), vs = [.ref ps, .ref d, .int z] ∧ LSt H ps le la n E st ins asks ∧ H d = some (.lst (os.map V.int)) ∧ d ≠ le ∧ d ≠ la ∧ n ≤ os.length ∧ os.length ≤ 200 ∧ 0 ≤ z ∧ E.length ≤ 1000 ∧
  ∀ H', LK ps le la ((n + ((os.drop n).take z.toNat).length : Nat) : Int) (E ++ dataE ((os.drop n).take z.toNat)) st ins asks H H' → Q .non H'
abbrev N__law_data : List Str := ["_law_s", "_law_data_here", "_law_size", "_law_some"]
theorem sc__law_data : FnScope N__law_data ["_law_s", "_law_data_here", "_law_size"] (defScope s__law_data) := ⟨rfl, rfl, rfl, by decide +kernel, rfl, by decide +kernel, by decide +kernel⟩
theorem h__law_data (T : Txt K w mg A) : Has CX0 P w K mg base "_law_data" 1 ["_law_s", "_law_data_here", "_law_size"] sp__law_data := by
  refine has0 (k := 0) T.d__law_data sc__law_data (fun _ _ _ _ _ _ us hl => match us, hl with | [_, _, _], _ => rfl) (fun vs H Q E h => ?_) (fun f cdv A0 outer ss H vs Q XE hr h => ?_)
  · obtain ⟨ps, le, la, d, os, n, E, st, ins, asks, z, rfl, _⟩ := h
    rfl
  · obtain ⟨ps, le, la, d, os, n, E, st, ins, asks, z, rfl, hL, hda, d1, d2, hn, hol, hz, hE, k⟩ := h
    obtain ⟨fo, hd⟩ := hL.at_
    refine ⟨_, ((pss_cons (ps_set (i := 3) sc__law_data.nd rfl (.inl rfl) (pe_callTy call_tuple_of (by rfl) T.b_tuple (by decide +kernel) (pa_cons (pe_slice sl_list (pv 1) (po_some (pe_dget (hu_of hr) (pv 0) pe_str (fun _ _ => rfl))) (po_some (pe_op op_add (pe_dget (hu_of hr) (pv 0) pe_str (fun _ _ => rfl)) (pv 2)))) pa_nil)))
      (pss_cons (ps_if (pt_cmpR (op_neNilT hr.units) (pv 3) (pe_tup pa_nil) (nomark _)) (pss_one (ps_expr (pe_bm PySem.F.plainAttrs_list PySem.F.slot_list_append PySem.F.type_list_append mt_append (pe_dget (hu_of hr) (pv 0) pe_str (fun _ _ => rfl)) (pa_cons (pe_tup (pa_cons pe_str (pa_cons (pv 3) pa_nil))) pa_nil)))) pss_nil)
      (pss_one (ps_dput (hu_of hr) (pv 0) pe_str (pe_op op_add (pe_dget (hu_of hr) (pv 0) pe_str (fun _ _ => rfl)) (pe_callB call_len_seq (by rfl) T.b_len PySem.boot_len (pa_cons (pv 3) pa_nil))) rfl))))), ?_⟩
    refine ⟨_, rfl, _, rfl, ps, .int n, rfl, dget hd lget_at, _, rfl, _, rfl, ps, .int n, rfl, dget hd lget_at, _, rfl, _, _, rfl, rfl, _, rfl, d, _, rfl, SqL.of hda, fun q hq => ?_⟩
    rw [cut_ints os n z hz hn]
    have tl := List.length_take_le z.toNat (os.drop n)
    have tl2 : ((os.drop n).take z.toNat).length ≤ os.length - n := by
      rw [List.length_take, List.length_drop]
      omega
    generalize (os.drop n).take z.toNat = som at *
    refine ⟨q, _, rfl, Or.inl ⟨SqL.of upd_same, fun t ht => ?_⟩⟩
    have e1 := (Ex.new (o := .lst (som.map V.int)) hq).tr (Ex.new (o := .tup (som.map V.int)) ht)
    refine ⟨_, rfl, Nat.zero_le _, fun m hm => ?_⟩
    have e2 := e1.tr (Ex.new (o := .tup []) hm)
    have tm : t ≠ m := ne_of_none upd_same hm
    refine ⟨t, m, _, rfl, rfl, SqT.of ((upd_ne tm).trans upd_same), upd_same, _, rfl, ?_⟩
    have l1 := (LK.here hL).ex e2
    have ht2 : (upd (upd (upd H q (.lst (som.map V.int))) t (.tup (som.map V.int))) m (.tup [])) t = some (.tup (som.map V.int)) := (upd_ne tm).trans upd_same
    generalize upd (upd (upd H q (.lst (som.map V.int))) t (.tup (som.map V.int))) m (.tup []) = H1 at *
    -- the end: at is put
    have fin : ∀ H2 E2, LK ps le la n E2 st ins asks H H2 → E2 = E ++ dataE som → Tk H1 H2 → ∃ fo2, H2 ps = some (.dK (lsk n le st ins la fo2)) ∧ H2 t = some (.tup (som.map V.int)) ∧ ∀ m : Int, m = (n : Int) + (som.length : Int) → Q .non (upd H2 ps (.dK (lsk m le st ins la fo2))) := fun H2 E2 l2 hE2 tk => by
      obtain ⟨fo2, hd2⟩ := l2.1.at_
      refine ⟨fo2, hd2, tk _ _ ht2, fun m hm => ?_⟩
      have := l2.dict hd2 m st ins fo2
      rw [hE2] at this
      refine k _ ?_
      have em : m = ((n + som.length : Nat) : Int) := by omega
      rw [em] at this ⊢
      exact this
    by_cases qs : som = []
    · refine ite2 (fun c => absurd c (by rw [qs]; decide)) (fun _ => ?_)
      obtain ⟨fo2, hd2, ht3, fn⟩ := fin H1 E l1 (by rw [qs]; exact (List.append_nil _).symm) (Tk.of (Ex.rfl' _))
      refine ⟨_, rfl, ps, .int n, rfl, dget hd2 lget_at, _, rfl, t, _, rfl, Or.inr (SqT.of ht3), _, _, rfl, rfl, _, rfl, ps, _, rfl, dput hd2, ?_⟩
      rw [lput_at]
      exact fn _ (by rw [List.length_map])
    · have eE : dataE som = [.run "data" som] := if_neg qs
      refine ite2 (fun _ => ?_) (fun c => absurd (show (!(som.map V.int).isEmpty) = true by cases som with | nil => exact absurd rfl qs | cons _ _ => rfl) c)
      obtain ⟨fo1, hd1⟩ := l1.1.at_
      obtain ⟨xs, hx, px⟩ := l1.1.ev
      have lx := px.length
      refine ⟨_, rfl, ps, .ref le, rfl, dget hd1 lget_events, Or.inl ⟨rfl, _, SqL.of hx⟩, _, rfl, by show 2 ≤ sizeLine; decide, fun u hu => ?_⟩
      have e3 := Ex.new (o := .tup [.str "data", .ref t]) hu
      refine ⟨le, xs, .ref u, rfl, rfl, e3 _ _ hx, Nat.lt_of_le_of_lt (by omega : xs.length ≤ 1000) (by decide), ?_⟩
      have l2 : LK ps le la n (E ++ [.run "data" som]) st ins asks H _ := ⟨((l1.ex e3).1).push (x := .ref u) (e := .run "data" som) (e3 _ _ hx) ⟨u, _, rfl, upd_same, t, rfl, e3 _ _ ht2⟩ (evs_mono (Tk.of e3) px), (l1.ex e3).2.tr (Kept.upd (by simp))⟩
      obtain ⟨fo2, hd2, ht3, fn⟩ := fin _ _ l2 (by rw [eE]) ((Tk.of e3).tr (Tk.upd (e3 _ _ hx) (fun _ z => by cases z)))
      refine ⟨_, rfl, ps, .int n, rfl, dget hd2 lget_at, _, rfl, t, _, rfl, Or.inr (SqT.of ht3), _, _, rfl, rfl, _, rfl, ps, _, rfl, dput hd2, ?_⟩
      rw [lput_at]
      exact fn _ (by rw [List.length_map])
end
end K32


namespace K32
open PySem PySem.Spec PyProof.Rows L2
/-! ### the plain law: where the reader is behind n octets -/
theorem joinE_app (a c : List Evt) : joinE (a ++ c) = c.foldl joinS (joinE a) := by
  unfold joinE
  rw [List.foldl_append]
theorem joinE_congr {a a' : List Evt} (c : List Evt) (h : joinE a = joinE a') : joinE (a ++ c) = joinE (a' ++ c) := by
  rw [joinE_app, joinE_app, h]
def EvsOk (E : List Evt) : Prop := ∀ e ∈ E, EvOk e
theorem EvsOk.app {E F : List Evt} (h : EvsOk E) (g : EvsOk F) : EvsOk (E ++ F) := fun e he => (List.mem_append.mp he).elim (h e) (g e)
theorem EvsOk.err {E : List Evt} (h : EvsOk E) (z : Str) (i : Int) : EvsOk (E ++ [.err z i]) := h.app fun e he => by
  rw [List.mem_singleton.mp he]
  trivial
/-- behind n octets of os the reader is s; the events so far are as E, joined -/
structure Pos (kd : Str) (b : Bk) (S0 : RS) (os : List Int) (n : Nat) (s : RS) (E : List Evt) : Prop where
  le : n ≤ os.length
  run : ∃ E', runM kd b S0 (os.take n) = (s, E') ∧ joinE E' = joinE E
  cnt : s.count = (n : Int)
  el : E.length ≤ n
  ok : EvsOk E
/-- all octets are read -/
structure FinP (kd : Str) (b : Bk) (S0 : RS) (os : List Int) (E : List Evt) (st ins : Str) : Prop where
  run : ∃ sF EF, runM kd b S0 os = (sF, EF) ∧ joinE EF = joinE E ∧ sF.now = st
  out : st = "wrong" ∨ ins ≠ ""
  ok : EvsOk E
  el : E.length ≤ os.length + 1
section
variable {kd : Str} {b : Bk} {S0 s : RS} {os : List Int} {n : Nat} {E : List Evt}
theorem Pos.adv (h : Pos kd b S0 os n s E) {k : Nat} {s' : RS} {ev E2 : List Evt} (hk : n + k ≤ os.length) (hr : runM kd b s ((os.drop n).take k) = (s', ev)) (hc : s'.count = ((n + k : Nat) : Int)) (hj : joinE (E ++ ev) = joinE E2) (hl : E2.length ≤ n + k) (ho : EvsOk E2) : Pos kd b S0 os (n + k) s' E2 := by
  obtain ⟨E', h1, h2⟩ := h.run
  refine ⟨hk, ⟨E' ++ ev, ?_, by rw [← hj]; exact joinE_congr ev h2⟩, hc, hl, ho⟩
  rw [List.take_add, runM_app, h1, hr]
theorem Pos.all (h : Pos kd b S0 os n s E) {s' : RS} {ev E2 : List Evt} (hr : runM kd b s (os.drop n) = (s', ev)) (hj : joinE (E ++ ev) = joinE E2) : ∃ sF EF, runM kd b S0 os = (sF, EF) ∧ joinE EF = joinE E2 ∧ sF.now = s'.now := by
  obtain ⟨E', h1, h2⟩ := h.run
  refine ⟨s', E' ++ ev, ?_, by rw [← hj]; exact joinE_congr ev h2, rfl⟩
  conv => lhs; rw [← List.take_append_drop n os]
  rw [runM_app, h1, hr]
theorem Pos.wrong (h : Pos kd b S0 os n s E) (hw : s.now = "wrong") (ins : Str) : FinP kd b S0 os E "wrong" ins := by
  obtain ⟨sF, EF, r1, r2, r3⟩ := h.all (runM_wrong (os.drop n) s hw) (by rw [List.append_nil])
  refine ⟨⟨sF, EF, r1, r2, ?_⟩, .inl rfl, h.ok, by have := h.el; have := h.le; omega⟩
  rw [r3]
  exact hw
theorem Pos.ends (h : Pos kd b S0 os os.length s E) {ins : Str} (hi : ins ≠ "") : FinP kd b S0 os E s.now ins := by
  obtain ⟨sF, EF, r1, r2, r3⟩ := h.all (s' := s) (ev := []) (E2 := E) (by rw [List.drop_length]; rfl) (by rw [List.append_nil])
  exact ⟨⟨sF, EF, r1, r2, r3⟩, .inr hi, h.ok, by have := h.el; omega⟩
/-- the reader waits for a line, none of it is there -/
structure L0 (kd : Str) (s : RS) : Prop where
  lm : LM kd s
  li : s.line = []
  en : s.ending = false
theorem L0.self (h : L0 kd s) (c : Int) (hc : s.count = c) : ({ s with line := [], ending := false, count := c } : RS) = s := by
  obtain ⟨_, h1, h2⟩ := h
  cases s
  simp only at h1 h2 hc
  subst h1 h2 hc
  rfl
theorem Pos.more (h : Pos kd b S0 os n s E) (l : L0 kd s) {a : List Int} {r : Bool} (q : lineGo b.line (os.drop n) [] false = .more a r) {ins : Str} (hi : ins ≠ "") : FinP kd b S0 os E s.now ins := by
  have lr := line_run l.lm (os.drop n) [] false (n : Int) (b := b)
  rw [q, ] at lr
  have lr' : runM kd b { s with line := [], ending := false, count := (n : Int) } (os.drop n) = ({ s with line := a, ending := r, count := (n : Int) + (os.drop n).length }, []) := lr
  rw [l.self _ h.cnt] at lr'
  obtain ⟨sF, EF, r1, r2, r3⟩ := h.all (E2 := E) lr' (by rw [List.append_nil])
  exact ⟨⟨sF, EF, r1, r2, r3⟩, .inr hi, h.ok, by have := h.el; have := h.le; omega⟩
theorem Pos.lineErr (h : Pos kd b S0 os n s E) (l : L0 kd s) {z : Str} {k : Nat} (q : lineGo b.line (os.drop n) [] false = .err z k) (ins : Str) : FinP kd b S0 os (E ++ [.err z ((n + k : Nat) : Int)]) "wrong" ins := by
  have lr := line_run l.lm (os.drop n) [] false (n : Int) (b := b)
  rw [q] at lr
  obtain ⟨h1, a2, r2, h2⟩ := lr
  rw [l.self _ h.cnt] at h2
  rw [List.length_drop] at h1
  have e1 : (n : Int) + (k : Int) = ((n + k : Nat) : Int) := by omega
  rw [e1] at h2
  have p := h.adv (k := k + 1) (E2 := E ++ [.err z ((n + k : Nat) : Int)]) (by omega) h2 (by show ((n + k : Nat) : Int) + 1 = ((n + (k + 1) : Nat) : Int); omega) rfl (by rw [List.length_append]; have := h.el; show E.length + 1 ≤ _; omega) (h.ok.err _ _)
  exact p.wrong rfl ins
/-- a whole line, its feed still to come -/
theorem step_lf (l : LM kd s) (octs : List Int) (c : Int) : stepM kd b { s with line := octs, ending := true, count := c } 10 = (match readLine kd b { s with line := [], ending := false, count := c } (lineS octs) with
    | .ok r => ({ r.1 with count := r.1.count + 1 }, r.2)
    | .error (s1, z) => ({ s1 with now := "wrong", count := s1.count + 1 }, [.err z s1.count])) := by
  rw [step_line (l.with octs true c) 10, if_pos (.inl rfl)]
  have e : readLineEnd kd b { s with line := octs, ending := true, count := c } 10 = (match readLine kd b { s with line := [], ending := false, count := c } (lineS octs) with
    | .ok r => r
    | .error (s1, z) => failM z s1) := by
    unfold readLineEnd
    rw [if_neg (fun z => z rfl), if_neg (fun z => Bool.noConfusion z)] <;> rfl
  rw [e]
  cases readLine kd b { s with line := [], ending := false, count := c } (lineS octs) with
  | ok r => rfl
  | error e =>
    obtain ⟨s1, z⟩ := e
    rfl
theorem Pos.line (hb : (0 : Int) ≤ b.line) (h : Pos kd b S0 os n s E) (l : L0 kd s) {octs : List Int} {k : Nat} (q : lineGo b.line (os.drop n) [] false = .line octs k) :
    1 ≤ k ∧ n + k ≤ os.length ∧ (∀ x ∈ octs, octB x = true) ∧ (octs.length : Int) ≤ b.line ∧
    (∀ r E2, readLine kd b { s with count := ((n + k : Nat) : Int) - 1 } (lineS octs) = .ok r → r.1.count = ((n + k : Nat) : Int) - 1 → joinE (E ++ r.2) = joinE E2 → E2.length ≤ n + k → EvsOk E2 → Pos kd b S0 os (n + k) { r.1 with count := ((n + k : Nat) : Int) } E2) ∧
    (∀ s1 z ins, readLine kd b { s with count := ((n + k : Nat) : Int) - 1 } (lineS octs) = .error (s1, z) → s1.count = ((n + k : Nat) : Int) - 1 → FinP kd b S0 os (E ++ [.err z (((n + k : Nat) : Int) - 1)]) "wrong" ins) := by
  have lr := line_run l.lm (os.drop n) [] false (n : Int) (b := b)
  rw [q] at lr
  obtain ⟨h1, h2, h3, h4⟩ := lr
  rw [l.self _ h.cnt] at h4
  rw [List.length_drop] at h2
  have lok := lineGo_ok b.line (os.drop n) [] false (fun x hx => by cases hx)
  have hn := h.le
  have hk : n + k ≤ os.length := by omega
  have ek : (os.drop n).take k = (os.drop n).take (k - 1) ++ [10] := by
    obtain ⟨j, rfl⟩ : ∃ j, k = j + 1 := ⟨k - 1, by omega⟩
    rw [List.take_succ]
    have h3' : (os.drop n)[j]? = some 10 := h3
    rw [h3']
    rfl
  have ec : (n : Int) + ((k - 1 : Nat) : Int) = ((n + k : Nat) : Int) - 1 := by omega
  rw [ec] at h4
  have lf := step_lf (b := b) l.lm octs (((n + k : Nat) : Int) - 1)
  have es : ({ s with line := [], ending := false, count := ((n + k : Nat) : Int) - 1 } : RS) = { s with count := ((n + k : Nat) : Int) - 1 } := by
    obtain ⟨_, g1, g2⟩ := l
    cases s
    simp only at g1 g2
    subst g1 g2
    rfl
  rw [es] at lf
  have run : runM kd b s ((os.drop n).take k) = stepM kd b { s with line := octs, ending := true, count := ((n + k : Nat) : Int) - 1 } 10 := by
    rw [ek, runM_app, h4]
    show ((runM kd b (stepM kd b _ 10).1 []).1, [] ++ ((stepM kd b _ 10).2 ++ (runM kd b (stepM kd b _ 10).1 []).2)) = _
    show ((stepM kd b _ 10).1, [] ++ ((stepM kd b _ 10).2 ++ [])) = _
    rw [List.append_nil, List.nil_append]
  refine ⟨h1, hk, ?_, ?_, ?_, ?_⟩
  · have := lok hb
    rw [q] at this
    exact this.1
  · have := lok hb
    rw [q] at this
    exact this.2
  · intro r E2 hr hc hj hl ho
    rw [hr] at lf
    have lf' : stepM kd b { s with line := octs, ending := true, count := ((n + k : Nat) : Int) - 1 } 10 = ({ r.1 with count := r.1.count + 1 }, r.2) := lf
    rw [hc] at lf'
    have e3 : ((n + k : Nat) : Int) - 1 + 1 = ((n + k : Nat) : Int) := by omega
    rw [e3] at lf'
    exact h.adv hk (run.trans lf') rfl hj hl ho
  · intro s1 z ins hr hc
    rw [hr] at lf
    have lf' : stepM kd b { s with line := octs, ending := true, count := ((n + k : Nat) : Int) - 1 } 10 = ({ s1 with now := "wrong", count := s1.count + 1 }, [.err z s1.count]) := lf
    rw [hc] at lf'
    have p := h.adv (E2 := E ++ [.err z (((n + k : Nat) : Int) - 1)]) hk (run.trans lf') (by show ((n + k : Nat) : Int) - 1 + 1 = _; omega) rfl (by rw [List.length_append]; have := h.el; show E.length + 1 ≤ _; omega) (h.ok.err _ _)
    exact p.wrong rfl ins
end
end K32

namespace K32
open PySem PySem.Spec PyProof.Rows L2
section
variable {P : Program} {w : World} {K : PySem.W.Frag} {mg : Str → Option Value} {base : Heap} {A : Adr}
/-! ### _law_fields -/
theorem L0.with {kd : Str} {s : RS} (h : L0 kd s) (fs : List Fld) (c : Int) : L0 kd { s with fields := fs, count := c } := ⟨⟨h.lm.nw, h.lm.un, h.lm.ce, h.lm.bd⟩, h.li, h.en⟩
theorem lineS_nil {octs : List Int} : lineS octs = "" ↔ octs = [] := by
  constructor
  · intro h
    have := congrArg Str.length h
    rw [lineS_len] at this
    exact List.eq_nil_of_length_eq_zero this
  · intro h
    rw [h]
    rfl
theorem LK.atp {ps le la : Addr} {n : Int} {E : List Evt} {st ins : Str} {asks : List Ask} {H H1 : Hp} (a : LK ps le la n E st ins asks H H1) : ∃ fo, H1 ps = some (.dK (lsk n le st ins la fo)) := a.1.at_
/-- what the fields end by: the empty line, its feed still to come -/
def FldsE (kd : Str) (b : Bk) (S0 : RS) (os : List Int) (s : RS) (n' : Nat) (fs : List Fld) (E : List Evt) : Prop := ∃ m k, n' = m + k ∧ Pos kd b S0 os m { s with fields := fs, count := (m : Int) } E ∧ lineGo b.line (os.drop m) [] false = .line [] k
def sp__law_fields : Sp := fun vs H Q _ => ∃ (ps le la p d : Addr) (kd : Str) (b : Bk) (S0 s : RS) (os : List Int) (n : Nat) (E : List Evt) (asks : List Ask), vs = [.ref ps, .ref p, .ref d] ∧ LSt H ps le la n E s.now "" asks ∧ LCx A H ps le la p d b os ∧ Pos kd b S0 os n s E ∧ L0 kd s ∧ s.fields = [] ∧ s.part ≠ "size" ∧ s.now ≠ "start" ∧
  (∀ t fs n' H', LK ps le la ((n' : Nat) : Int) E s.now "" asks H H' → FT H' t fs → OkFs fs → (fs.length : Int) ≤ b.fields → FldsE kd b S0 os s n' fs E → n ≤ n' → Q (.ref t) H') ∧
  (∀ n' E' st ins H', LK ps le la n' E' st ins asks H H' → FinP kd b S0 os E' st ins → Q .non H')
abbrev N__law_fields : List Str := ["_law_s", "_law_rules", "_law_data_here", "_law_found", "_law_line_here", "_law_field_here"]
theorem sc__law_fields : FnScope N__law_fields ["_law_s", "_law_rules", "_law_data_here"] (defScope s__law_fields) := ⟨rfl, rfl, rfl, by decide +kernel, rfl, by decide +kernel, by decide +kernel⟩
theorem h__law_fields (T : Txt K w mg A) : Has CX0 P w K mg base "_law_fields" 6 ["_law_s", "_law_rules", "_law_data_here"] (sp__law_fields (A := A)) := by
  refine has0 (k := 5) T.d__law_fields sc__law_fields (fun _ _ _ _ _ _ us hl => match us, hl with | [_, _, _], _ => rfl) (fun vs H Q E h => ?_) (fun f cdv A0 outer ss H vs Q XE hr h => ?_)
  · obtain ⟨ps, le, la, p, d, kd, b, S0, s, os, n, E, asks, rfl, _⟩ := h
    rfl
  · obtain ⟨ps, le, la, p, d, kd, b, S0, s, os, n, E, asks, rfl, hL, hC, hP, h0, hf0, hps, hns, k1, k2⟩ := h
    refine ⟨_, ((pss_cons (ps_set (i := 3) sc__law_fields.nd rfl (.inl rfl) (pe_lst pa_nil))
      (pss_one (ps_while PassesOwn.never (pt_val pe_bl)
      (pss_cons (ps_set (i := 4) sc__law_fields.nd rfl (.inl rfl) (pe_fn (h__law_next_line T) (hr.mono (by decide)) paN (pa_cons (pv 0) (pa_cons (pv 1) (pa_cons (pv 2) pa_nil)))))
      (pss_cons (ps_if (pt_cmpR op_isN (pv 4) pe_non (nomark _)) (pss_one (ps_ret pe_non)) pss_nil)
      (pss_cons (ps_if (pt_cmpR op_eq (pv 4) pe_str (nomark _)) (pss_one (ps_ret (pe_callTy call_tuple_of (by rfl) T.b_tuple (by decide +kernel) (pa_cons (pv 3) pa_nil)))) pss_nil)
      (pss_cons (ps_set (i := 5) sc__law_fields.nd rfl (.inl rfl) (pe_fn (h__law_field T) (hr.mono (by decide)) paN (pa_cons (pv 4) pa_nil)))
      (pss_cons (ps_if (PW.pt (pw_or (pt_val (pe_callB call_isi (by rfl) T.b_isinstance (by decide +kernel) (pa_cons (pv 5) (pa_cons (pe_bltn (v := .ty "str") rfl T.b_str (by decide +kernel) rfl) pa_nil)))) (pw_or1 (pt_cmpR op_eq (pe_callB call_len_seq (by rfl) T.b_len PySem.boot_len (pa_cons (pv 3) pa_nil)) (pe_fld (pv 1) rfl) (nomark _))))) (pss_cons (ps_expr (pe_fn (h__law_fail T) (hr.mono (by decide)) paN (pa_cons (pv 0) (pa_cons (pe_ifExp (pt_val (pe_callB call_isi (by rfl) T.b_isinstance (by decide +kernel) (pa_cons (pv 5) (pa_cons (pe_bltn (v := .ty "str") rfl T.b_str (by decide +kernel) rfl) pa_nil)))) (pv 5) pe_str) (pa_cons (pe_op op_sub (pe_dget (hu_of hr) (pv 0) pe_str (fun _ _ => rfl)) pe_int) pa_nil)))))
      (pss_one (ps_ret pe_non))) pss_nil)
      (pss_one (ps_expr (pe_bm PySem.F.plainAttrs_list PySem.F.slot_list_append PySem.F.type_list_append mt_append (pv 3) (pa_cons (pv 5) pa_nil))))))))))))), ?_⟩
    have ol := hC.ol
    have bl0 : (0 : Int) ≤ b.line := by have := hC.ok.l1; omega
    refine ⟨Nat.zero_le _, fun q hq => ?_⟩
    have qout : q ≠ ps ∧ q ≠ le ∧ q ≠ la := by
      obtain ⟨⟨fo, g1⟩, ⟨xs, g2, _⟩, ⟨ys, g3, _⟩, _⟩ := id hL
      exact ⟨(ne_of_none g1 hq).symm, (ne_of_none g2 hq).symm, (ne_of_none g3 hq).symm⟩
    refine ⟨fun mm σ Hx => ∃ (m : Nat) (fs : List Fld) (v4 v5 : Option V), mm = os.length - m ∧ σ = [some (.ref ps), some (.ref p), some (.ref d), some (.ref q), v4, v5] ∧ LK ps le la ((m : Nat) : Int) E s.now "" asks H Hx ∧ FL Hx q fs ∧ Pos kd b S0 os m { s with fields := fs, count := (m : Int) } E ∧ OkFs fs ∧ (fs.length : Int) ≤ b.fields ∧ n ≤ m,
      ⟨os.length - n, n, [], none, none, rfl, rfl, (LK.here hL).ex (Ex.new hq), ⟨[], upd_same, .nil⟩, ?_, ⟨Nat.zero_le _, fun f hf => by cases hf⟩, by have := hC.ok.f1; show (0 : Int) ≤ b.fields; omega, Nat.le_refl _⟩, ?_⟩
    · have : ({ s with fields := [], count := (n : Int) } : RS) = s := by
        have h1 := hf0
        have h2 := hP.cnt
        cases s
        simp only at h1 h2
        subst h1 h2
        rfl
      rw [this]
      exact hP
    · rintro mm σ Hx ⟨m, fs, v4, v5, rfl, rfl, lk, ⟨fx, hfx, pfx⟩, pos, okf, lf, nm⟩
      refine ⟨_, rfl, iteT ?_⟩
      refine ⟨fun σ' H' => ∃ (m2 : Nat) (fs2 : List Fld) (v4 v5 : Option V), m < m2 ∧ m2 ≤ os.length ∧ σ' = [some (.ref ps), some (.ref p), some (.ref d), some (.ref q), v4, v5] ∧ LK ps le la ((m2 : Nat) : Int) E s.now "" asks H H' ∧ FL H' q fs2 ∧ Pos kd b S0 os m2 { s with fields := fs2, count := (m2 : Int) } E ∧ OkFs fs2 ∧ (fs2.length : Int) ≤ b.fields ∧ n ≤ m2, ?_, ?_⟩
      · rintro σ' H' ⟨m2, fs2, v4, v5, lt, le2, e1, e2, e3, e4, e5, e6, e7⟩
        exact ⟨os.length - m2, by omega, m2, fs2, v4, v5, rfl, e1, e2, e3, e4, e5, e6, e7⟩
      · have hCx := hC.keep hL lk.2
        have l0 := h0.with fs (m : Int)
        refine ⟨_, rfl, _, rfl, _, rfl, ps, le, la, p, d, b, os, m, E, s.now, "", asks, rfl, lk.1, hCx, pos.le, by have := pos.el; have := pos.le; omega, fun octs kk H1 g1 l1 => ?_, fun a r H1 g1 l1 => ?_, fun z kk H1 g1 l1 => ?_⟩
        · have lk1 := lk.tr l1
          obtain ⟨k1', hk, oc, ocl, pl1, pl2⟩ := pos.line bl0 l0 g1
          have lf1 : FL H1 q fs := ⟨fx, l1.2 _ _ hfx (by simp [qout.1, qout.2.1, qout.2.2]), flds_mono (lk.1.tk l1.2) pfx⟩
          obtain ⟨fx1, hfx1, pfx1⟩ := id lf1
          have lfx := pfx1.length
          refine ⟨_, rfl, rfl, _, rfl, iteF ?_⟩
          refine ⟨_, rfl, rfl, _, rfl, ?_⟩
          rw [dec_vs]
          refine ite2 (fun c1 => ?_) (fun c1 => ?_)
          · have c1' := lineS_nil.mp (of_decide_eq_true c1)
            refine ⟨_, rfl, q, fx1, rfl, Or.inl ⟨SqL.of hfx1, fun t ht => ?_⟩⟩
            refine k1 t fs (m + kk) _ (lk1.ex (Ex.new ht)) ⟨fx1, upd_same, flds_mono (Tk.of (Ex.new ht)) pfx1⟩ okf lf ⟨m, kk, rfl, pos, by rw [g1, c1']⟩ (by omega)
          · have c1' : lineS octs ≠ "" := fun z => c1 (decide_eq_true z)
            have rl : readLine kd b { ({ s with fields := fs, count := (m : Int) } : RS) with count := ((m + kk : Nat) : Int) - 1 } (lineS octs) = fieldO b { s with fields := fs, count := ((m + kk : Nat) : Int) - 1 } (lineS octs) := by
              unfold readLine fieldO
              have a1 : ¬ ({ s with fields := fs, count := ((m + kk : Nat) : Int) - 1 } : RS).part = "size" := hps
              have a2 : ¬ ({ s with fields := fs, count := ((m + kk : Nat) : Int) - 1 } : RS).now = "start" := hns
              rw [if_neg a1, if_neg a2, if_pos c1'] <;> rfl
            have lsz : (lineS octs).length ≤ 200 := by
              rw [lineS_len]
              have := hC.ok.l2
              omega
            refine ⟨_, rfl, lineS octs, rfl, lineS_ok oc, by omega, fun fd t H2 hm ht e2 hx => ?_, fun H2 hm e2 => ?_⟩
            · have eo : fieldO b { s with fields := fs, count := ((m + kk : Nat) : Int) - 1 } (lineS octs) = (if (fs.length : Int) = b.fields then .ok (failM "many" { s with fields := fs, count := ((m + kk : Nat) : Int) - 1 }) else .ok ({ s with fields := fs ++ [fd], count := ((m + kk : Nat) : Int) - 1 }, [])) := by
                unfold fieldO
                rw [hm]
              have lk2 := lk1.ex e2
              obtain ⟨fo2, hd2⟩ := lk2.atp
              obtain ⟨bdx, hbk⟩ := (hC.keep hL lk2.2).bk
              have hfx2 := e2 _ _ hfx1
              refine ⟨_, rfl, _, _, _, _, false, rfl, .ty _, .base (.tup hx), kit_ty (by decide +kernel), false, rfl, iteF ?_⟩
              refine ⟨_, rfl, q, fx1, rfl, Or.inl (SqL.of hfx2), _, rfl, p, A.BK, bdx, _, _, rfl, hbk, T.cl_Book, T.n_Book_most_fields, bfs_most_fields b, rfl, _, rfl, ?_⟩
              rw [dec_vi, lfx]
              refine ite2 (fun c2 => ?_) (fun c2 => ?_)
              · have c2' := of_decide_eq_true c2
                rw [if_pos c2'] at eo
                refine ⟨_, rfl, _, rfl, _, _, _, _, false, rfl, .ty _, .base (.tup hx), kit_ty (by decide +kernel), false, rfl, iteF ?_⟩
                refine ⟨_, rfl, ps, _, rfl, dget hd2 lget_at, _, _, rfl, rfl, ps, le, la, _, E, s.now, "", asks, "many", _, rfl, lk2.1, by have := pos.el; have := pos.le; omega, fun H3 g3 g4 => ?_⟩
                have pw := pl1 (failM "many" { s with fields := fs, count := ((m + kk : Nat) : Int) - 1 }) (E ++ [.err "many" (((m + kk : Nat) : Int) - 1)]) (by rw [rl, eo]) rfl rfl (by rw [List.length_append]; have := pos.el; show E.length + 1 ≤ _; omega) (pos.ok.err _ _)
                exact k2 _ _ _ _ _ (lk2.tr ⟨g3, g4⟩) (pw.wrong rfl "")
              · have c2' : ¬ (fs.length : Int) = b.fields := fun z => c2 (decide_eq_true z)
                rw [if_neg c2'] at eo
                have bf2 := hC.ok.f2
                refine ⟨_, rfl, Or.inl ⟨rfl, _, SqL.of hfx2⟩, _, rfl, q, fx1, _, rfl, rfl, hfx2, Nat.lt_of_le_of_lt (by omega : fx1.length ≤ 1000) (by decide), ?_⟩
                have pw := pl1 ({ s with fields := fs ++ [fd], count := ((m + kk : Nat) : Int) - 1 }, []) E (by rw [rl, eo]) rfl (by rw [List.append_nil]) (by have := pos.el; omega) pos.ok
                have tk : Tk H2 (upd H2 q (.lst (fx1 ++ [.ref t]))) := Tk.upd hfx2 (fun _ z => by cases z)
                have lk3 : LK ps le la ((m + kk : Nat) : Int) E s.now "" asks H (upd H2 q (.lst (fx1 ++ [.ref t]))) := by
                  refine ⟨?_, fun a o ha hn => ?_⟩
                  · obtain ⟨⟨fo3, g1⟩, ⟨xs, g2, g2p⟩, ⟨ys, g3, g3p⟩, g4⟩ := lk2.1
                    exact ⟨⟨fo3, (upd_ne qout.1.symm).trans g1⟩, ⟨xs, (upd_ne qout.2.1.symm).trans g2, evs_mono tk g2p⟩, ⟨ys, (upd_ne qout.2.2.symm).trans g3, L2.Paired.mapP g3p fun _ _ q => q.mono tk⟩, g4⟩
                  · have aq : a ≠ q := ne_of_none ha hq
                    exact (upd_ne aq).trans (lk2.2 a o ha hn)
                refine ⟨m + kk, fs ++ [fd], some (.str (lineS octs)), some (.ref t), by omega, hk, rfl, lk3, ⟨_, upd_same, Paired.snoc (flds_mono tk (flds_mono (Tk.of e2) pfx1)) ⟨t, rfl, tk _ _ hx⟩⟩, pw, ?_, ?_, by omega⟩
                · refine ⟨by rw [List.length_append]; show fs.length + 1 ≤ 20; omega, fun g hg => ?_⟩
                  rcases List.mem_append.mp hg with h | h
                  · exact okf.2 g h
                  · rw [List.mem_singleton.mp h]
                    exact mField_ok lsz hm
                · rw [List.length_append]
                  show ((fs.length + 1 : Nat) : Int) ≤ b.fields
                  omega
            · have eo : fieldO b { s with fields := fs, count := ((m + kk : Nat) : Int) - 1 } (lineS octs) = .error ({ s with fields := fs, count := ((m + kk : Nat) : Int) - 1 }, "field") := by
                unfold fieldO
                rw [hm]
              have lk2 := lk1.ex e2
              obtain ⟨fo2, hd2⟩ := lk2.atp
              refine ⟨_, rfl, _, _, _, _, true, rfl, .ty _, .base (.str _), kit_ty (by decide +kernel), true, rfl, iteT ?_⟩
              refine ⟨_, rfl, _, rfl, _, _, _, _, true, rfl, .ty _, .base (.str _), kit_ty (by decide +kernel), true, rfl, iteT ?_⟩
              refine ⟨_, rfl, _, rfl, ps, _, rfl, dget hd2 lget_at, _, _, rfl, rfl, ps, le, la, _, E, s.now, "", asks, "field", _, rfl, lk2.1, by have := pos.el; have := pos.le; omega, fun H3 g3 g4 => ?_⟩
              exact k2 _ _ _ _ _ (lk2.tr ⟨g3, g4⟩) (pl2 _ _ "" (by rw [rl, eo]) rfl)
        · refine ⟨_, rfl, rfl, _, rfl, iteT ?_⟩
          exact k2 _ _ _ _ _ (lk.tr l1) (pos.more l0 g1 (by decide +kernel))
        · refine ⟨_, rfl, rfl, _, rfl, iteT ?_⟩
          exact k2 _ _ _ _ _ (lk.tr l1) (pos.lineErr l0 g1 "")
end
end K32


namespace K32
open PySem PySem.Spec PyProof.Rows L2
/-! ### the plain law: bodies -/
theorem joinS_run (acc : List Evt) (w : Str) (a c : List Int) : joinS (joinS acc (.run w a)) (.run w c) = joinS acc (.run w (a ++ c)) := by
  have plain : ∀ acc2 : List Evt, joinS (acc2 ++ [.run w a]) (.run w c) = acc2 ++ [.run w (a ++ c)] := fun acc2 => by
    unfold joinS
    rw [List.getLast?_append]
    simp
  cases q : acc.getLast? with
  | none =>
    have e1 : ∀ x, joinS acc (.run w x) = acc ++ [.run w x] := fun x => by
      unfold joinS
      rw [q]
    rw [e1, e1]
    exact plain acc
  | some l =>
    cases l with
    | run w' y =>
      by_cases hw : w' = w
      · have e1 : ∀ x, joinS acc (.run w x) = acc.dropLast ++ [.run w (y ++ x)] := fun x => by
          unfold joinS
          rw [q]
          exact if_pos hw
        rw [e1, e1]
        unfold joinS
        rw [List.getLast?_append]
        simp
      · have e1 : ∀ x, joinS acc (.run w x) = acc ++ [.run w x] := fun x => by
          unfold joinS
          rw [q]
          exact if_neg hw
        rw [e1, e1]
        exact plain acc
    | head w' st fs =>
      have e1 : ∀ x, joinS acc (.run w x) = acc ++ [.run w x] := fun x => by
        unfold joinS
        rw [q]
      rw [e1, e1]
      exact plain acc
    | fin fs =>
      have e1 : ∀ x, joinS acc (.run w x) = acc ++ [.run w x] := fun x => by
        unfold joinS
        rw [q]
      rw [e1, e1]
      exact plain acc
    | err k n =>
      have e1 : ∀ x, joinS acc (.run w x) = acc ++ [.run w x] := fun x => by
        unfold joinS
        rw [q]
      rw [e1, e1]
      exact plain acc
theorem join_runs (w : Str) : ∀ (x a : List Int) (acc : List Evt), (x.map fun o => Evt.run w [o]).foldl joinS (joinS acc (.run w a)) = joinS acc (.run w (a ++ x))
  | [], a, acc => by rw [List.append_nil]; rfl
  | o :: r, a, acc => by
    show (r.map fun o => Evt.run w [o]).foldl joinS (joinS (joinS acc (.run w a)) (.run w [o])) = _
    rw [joinS_run, join_runs w r (a ++ [o]) acc, List.append_assoc]
    rfl
/-- octet by octet, or all at once -/
theorem join_data (E : List Evt) (x : List Int) : joinE (E ++ x.map fun o => Evt.run "data" [o]) = joinE (E ++ dataE x) := by
  cases x with
  | nil => rfl
  | cons o r =>
    have e : dataE (o :: r) = [.run "data" (o :: r)] := if_neg (List.cons_ne_nil _ _)
    rw [e, joinE_app, joinE_app]
    show (r.map fun o => Evt.run "data" [o]).foldl joinS (joinS (joinE E) (.run "data" [o])) = joinS (joinE E) (.run "data" (o :: r))
    exact join_runs "data" r [o] (joinE E)
theorem join_raw (E : List Evt) (x : List Int) (hx : x ≠ []) : joinE (E ++ x.map fun o => Evt.run "raw" [o]) = joinE (E ++ [.run "raw" x]) := by
  cases x with
  | nil => exact absurd rfl hx
  | cons o r =>
    rw [joinE_app, joinE_app]
    show (r.map fun o => Evt.run "raw" [o]).foldl joinS (joinS (joinE E) (.run "raw" [o])) = joinS (joinE E) (.run "raw" (o :: r))
    exact join_runs "raw" r [o] (joinE E)
theorem dataE_ok (x : List Int) : EvsOk (dataE x) := by
  unfold dataE
  split
  · intro e he
    cases he
  · rename_i h
    intro e he
    rw [List.mem_singleton.mp he]
    exact ⟨.inl rfl, h⟩
theorem dataE_len (x : List Int) : (dataE x).length ≤ x.length := by
  unfold dataE
  split
  · exact Nat.zero_le _
  · rename_i h
    cases x with
    | nil => exact absurd rfl h
    | cons o r => show 1 ≤ r.length + 1; omega
section
variable {kd : Str} {b : Bk} {s : RS}
theorem body_now {z : Str} (h : z = "body") : z ≠ "wrong" ∧ z ≠ "raw" ∧ ¬ (z = "waiting" ∨ z = "over") ∧ z ≠ "start" := by
  rw [h]
  decide +kernel
theorem step_run (h1 : s.now = "body") (h2 : s.part = "length" ∨ s.part = "chunk" ∨ s.part = "rest") (o : Int) : stepM kd b s o = ({ (readRun kd s o).1 with count := (readRun kd s o).1.count + 1 }, (readRun kd s o).2) := by
  obtain ⟨n1, n2, _, _⟩ := body_now h1
  have e : readSome kd b s o = readRun kd s o := by
    unfold readSome
    rw [if_neg n2, if_pos ⟨h1, h2⟩]
  unfold stepM
  rw [if_neg n1, e]
/-- the rest of a connection -/
theorem run_rest : ∀ (x : List Int) (s : RS), s.now = "body" → s.part = "rest" → runM kd b s x = ({ s with count := s.count + x.length }, x.map fun o => Evt.run "data" [o])
  | [], s, h1, h2 => by
    show (s, []) = ({ s with count := s.count + 0 }, [])
    rw [Int.add_zero]
  | o :: r, s, h1, h2 => by
    have e0 : readRun kd s o = (s, [.run "data" [o]]) := if_pos h2
    have e1 : stepM kd b s o = ({ s with count := s.count + 1 }, [.run "data" [o]]) := by
      rw [step_run h1 (.inr (.inr h2)) o, e0]
    show ((runM kd b (stepM kd b s o).1 r).1, (stepM kd b s o).2 ++ (runM kd b (stepM kd b s o).1 r).2) = _
    rw [e1]
    show ((runM kd b { s with count := s.count + 1 } r).1, [.run "data" [o]] ++ (runM kd b { s with count := s.count + 1 } r).2) = _
    rw [run_rest r { s with count := s.count + 1 } h1 h2]
    show (({ s with count := s.count + 1 + (r.length : Int) } : RS), _) = _
    have e2 : s.count + 1 + (r.length : Int) = s.count + ((o :: r).length : Int) := by
      rw [List.length_cons]
      omega
    rw [e2]
    rfl
/-- raw octets -/
theorem run_raw : ∀ (x : List Int) (s : RS), s.now = "raw" → runM kd b s x = ({ s with count := s.count + x.length }, x.map fun o => Evt.run "raw" [o])
  | [], s, h1 => by
    show (s, []) = ({ s with count := s.count + 0 }, [])
    rw [Int.add_zero]
  | o :: r, s, h1 => by
    have n1 : s.now ≠ "wrong" := by rw [h1]; decide +kernel
    have e0 : readSome kd b s o = (s, [.run "raw" [o]]) := if_pos h1
    have e1 : stepM kd b s o = ({ s with count := s.count + 1 }, [.run "raw" [o]]) := by
      unfold stepM
      rw [if_neg n1, e0]
    show ((runM kd b (stepM kd b s o).1 r).1, (stepM kd b s o).2 ++ (runM kd b (stepM kd b s o).1 r).2) = _
    rw [e1]
    show ((runM kd b { s with count := s.count + 1 } r).1, [.run "raw" [o]] ++ (runM kd b { s with count := s.count + 1 } r).2) = _
    rw [run_raw r { s with count := s.count + 1 } h1]
    show (({ s with count := s.count + 1 + (r.length : Int) } : RS), _) = _
    have e2 : s.count + 1 + (r.length : Int) = s.count + ((o :: r).length : Int) := by
      rw [List.length_cons]
      omega
    rw [e2]
    rfl
/-- fewer octets than are left -/
theorem run_part : ∀ (x : List Int) (s : RS), s.now = "body" → (s.part = "length" ∨ s.part = "chunk") → (x.length : Int) < s.left → runM kd b s x = ({ s with left := s.left - x.length, count := s.count + x.length }, x.map fun o => Evt.run "data" [o])
  | [], s, h1, h2, h3 => by
    show (s, []) = ({ s with left := s.left - 0, count := s.count + 0 }, [])
    rw [Int.add_zero, Int.sub_zero]
  | o :: r, s, h1, h2, h3 => by
    rw [List.length_cons] at h3
    have nr : ¬ s.part = "rest" := by
      rcases h2 with h | h <;> rw [h] <;> decide +kernel
    have e0 : readRun kd s o = ({ s with left := s.left - 1 }, [.run "data" [o]]) := (if_neg nr).trans (if_neg (by omega))
    have e1 : stepM kd b s o = ({ s with left := s.left - 1, count := s.count + 1 }, [.run "data" [o]]) := by
      rw [step_run h1 (by rcases h2 with h | h; exact .inl h; exact .inr (.inl h)) o, e0]
    show ((runM kd b (stepM kd b s o).1 r).1, (stepM kd b s o).2 ++ (runM kd b (stepM kd b s o).1 r).2) = _
    rw [e1]
    show ((runM kd b { s with left := s.left - 1, count := s.count + 1 } r).1, [.run "data" [o]] ++ (runM kd b { s with left := s.left - 1, count := s.count + 1 } r).2) = _
    rw [run_part r { s with left := s.left - 1, count := s.count + 1 } h1 h2 (by show (r.length : Int) < s.left - 1; omega)]
    show (({ s with left := s.left - 1 - (r.length : Int), count := s.count + 1 + (r.length : Int) } : RS), _) = _
    have e2 : s.count + 1 + (r.length : Int) = s.count + ((o :: r).length : Int) := by
      rw [List.length_cons]
      omega
    have e3 : s.left - 1 - (r.length : Int) = s.left - ((o :: r).length : Int) := by
      rw [List.length_cons]
      omega
    rw [e2, e3]
    rfl
/-- all octets that are left -/
theorem run_full {x : List Int} {o : Int} (h1 : s.now = "body") (h2 : s.part = "length" ∨ s.part = "chunk") (h3 : ((x.length + 1 : Nat) : Int) = s.left) : runM kd b s (x ++ [o]) =
    (if s.part = "chunk" then ({ s with left := 0, part := "chunk end", count := s.count + ((x.length + 1 : Nat) : Int) }, (x ++ [o]).map fun o => Evt.run "data" [o])
     else ({ (endMsg kd { s with left := 0, count := s.count + (x.length : Int) } []).1 with count := s.count + ((x.length + 1 : Nat) : Int) }, ((x ++ [o]).map fun o => Evt.run "data" [o]) ++ (endMsg kd { s with left := 0, count := s.count + (x.length : Int) } []).2) : Out) := by
  rw [runM_app, run_part x s h1 h2 (by omega)]
  have nr : ¬ s.part = "rest" := by
    rcases h2 with h | h <;> rw [h] <;> decide +kernel
  have h2' : s.part = "length" ∨ s.part = "chunk" ∨ s.part = "rest" := by
    rcases h2 with h | h
    · exact .inl h
    · exact .inr (.inl h)
  have one : ∀ t : RS, runM kd b t [o] = stepM kd b t o := fun t => run1 (r := [])
  show ((runM kd b { s with left := s.left - x.length, count := s.count + x.length } [o]).1, _ ++ (runM kd b { s with left := s.left - x.length, count := s.count + x.length } [o]).2) = _
  rw [one, step_run (s := { s with left := s.left - x.length, count := s.count + x.length }) h1 h2' o]
  have el : s.left - (x.length : Int) = 1 := by omega
  rw [el]
  have ec : s.count + (x.length : Int) + 1 = s.count + ((x.length + 1 : Nat) : Int) := by omega
  by_cases hc : s.part = "chunk"
  · rw [if_pos hc]
    have e0 : readRun kd { s with left := 1, count := s.count + x.length } o = ({ s with left := 0, part := "chunk end", count := s.count + x.length }, [.run "data" [o]]) := by
      unfold readRun
      rw [if_neg nr, if_pos (show (1 : Int) - 1 = 0 from rfl), if_pos hc]
      rfl
    rw [e0, List.map_append]
    show (({ s with left := 0, part := "chunk end", count := s.count + (x.length : Int) + 1 } : RS), _) = _
    rw [ec]
    rfl
  · rw [if_neg hc]
    have e0 : readRun kd { s with left := 1, count := s.count + x.length } o = ((endMsg kd { s with left := 0, count := s.count + (x.length : Int) } []).1, .run "data" [o] :: (endMsg kd { s with left := 0, count := s.count + (x.length : Int) } []).2) := by
      unfold readRun
      rw [if_neg nr, if_pos (show (1 : Int) - 1 = 0 from rfl), if_neg hc]
      rfl
    rw [e0, List.map_append]
    have ek : (endMsg kd { s with left := 0, count := s.count + (x.length : Int) } []).1.count = s.count + (x.length : Int) := by
      unfold endMsg
      split
      · rfl
      · split <;> rfl
    show (({ (endMsg kd { s with left := 0, count := s.count + (x.length : Int) } []).1 with count := (endMsg kd { s with left := 0, count := s.count + (x.length : Int) } []).1.count + 1 } : RS), _) = _
    rw [ek, ec, List.append_assoc]
    rfl
/-- the line end behind a chunk -/
theorem step_ce (h1 : s.now = "body") (h2 : s.part = "chunk end") (o : Int) : stepM kd b s o = ({ (readChunkEnd s o).1 with count := (readChunkEnd s o).1.count + 1 }, (readChunkEnd s o).2) := by
  obtain ⟨n1, n2, n3, n4⟩ := body_now h1
  have e : readSome kd b s o = readChunkEnd s o := by
    unfold readSome
    rw [if_neg n2, if_neg (by rw [h2]; rintro ⟨_, z⟩; revert z; decide +kernel)]
    unfold readOctet
    rw [if_neg n3, if_neg (fun z => n4 z.1), if_pos h2]
  unfold stepM
  rw [if_neg n1, e]
end
end K32

namespace K32
open PySem PySem.Spec PyProof.Rows L2
section
variable {kd : Str} {b : Bk} {S0 s : RS} {os : List Int} {n : Nat} {E : List Evt}
/-- so many octets of a body, or fewer -/
theorem Pos.bodyShort (h : Pos kd b S0 os n s E) (h1 : s.now = "body") (h2 : s.part = "length" ∨ s.part = "chunk") {z : Int} (hz : s.left = z) (hs : ((os.drop n).take z.toNat).length < z.toNat) : FinP kd b S0 os (E ++ dataE ((os.drop n).take z.toNat)) "body" "some" := by
  have e0 : (os.drop n).take z.toNat = os.drop n := by
    rw [List.length_take] at hs
    exact List.take_of_length_le (by omega)
  rw [e0] at hs ⊢
  have hr := run_part (kd := kd) (b := b) (os.drop n) s h1 h2 (by rw [hz]; omega)
  obtain ⟨sF, EF, r1, r2, r3⟩ := h.all hr (join_data E (os.drop n))
  have dl := dataE_len (os.drop n)
  rw [List.length_drop] at dl
  refine ⟨⟨sF, EF, r1, r2, r3.trans h1⟩, .inr (by decide +kernel), h.ok.app (dataE_ok _), ?_⟩
  rw [List.length_append]
  have := h.el
  have := h.le
  omega
theorem Pos.chunkFull (h : Pos kd b S0 os n s E) (h1 : s.now = "body") (h2 : s.part = "chunk") {z : Int} (hz : s.left = z) (h0 : 0 < z) (hs : ¬ ((os.drop n).take z.toNat).length < z.toNat) :
    Pos kd b S0 os (n + ((os.drop n).take z.toNat).length) { s with left := 0, part := "chunk end", count := ((n + ((os.drop n).take z.toNat).length : Nat) : Int) } (E ++ dataE ((os.drop n).take z.toNat)) := by
  have hl : ((os.drop n).take z.toNat).length = z.toNat := by
    rw [List.length_take] at hs ⊢
    omega
  have hn := h.le
  have hd : z.toNat ≤ os.length - n := by
    rw [List.length_take, List.length_drop] at hl
    omega
  have et : (os.drop n).take ((os.drop n).take z.toNat).length = (os.drop n).take z.toNat := by rw [hl]
  have dl := dataE_len ((os.drop n).take z.toNat)
  have hok := h.ok.app (dataE_ok ((os.drop n).take z.toNat))
  have hj := join_data E ((os.drop n).take z.toNat)
  generalize hx : (os.drop n).take z.toNat = x at *
  have ne : x ≠ [] := fun q => by
    rw [q] at hl
    simp at hl
    omega
  obtain ⟨y, o, rfl⟩ : ∃ y o, x = y ++ [o] := ⟨x.dropLast, x.getLast ne, (List.dropLast_concat_getLast ne).symm⟩
  have ly : (y ++ [o]).length = y.length + 1 := by simp
  have hr := run_full (kd := kd) (b := b) (x := y) (o := o) h1 (.inr h2) (by rw [hz]; omega)
  rw [if_pos h2] at hr
  have hc := h.cnt
  refine h.adv (k := (y ++ [o]).length) (by omega) (by rw [et]; refine hr.trans ?_; congr 2; rw [hc, ly]; omega) rfl hj (by rw [List.length_append]; have := h.el; omega) hok
/-- an octet of the line end behind a chunk -/
theorem Pos.ce (h : Pos kd b S0 os n s E) (h1 : s.now = "body") (h2 : s.part = "chunk end") {o : Int} (ho : os[n]? = some o) :
    (o ≠ (if s.ending then 10 else 13) → FinP kd b S0 os (E ++ [.err "chunk" (n : Int)]) "wrong" "") ∧
    (o = (if s.ending then 10 else 13) → Pos kd b S0 os (n + 1) (if s.ending then { s with ending := false, part := "size", count := ((n + 1 : Nat) : Int) } else { s with ending := true, count := ((n + 1 : Nat) : Int) }) E) := by
  have hlt : n < os.length := (List.getElem?_eq_some_iff.mp ho).1
  have et : (os.drop n).take 1 = [o] := by
    have := List.drop_eq_getElem_cons hlt
    rw [List.getElem?_eq_getElem hlt] at ho
    rw [this, Option.some.inj ho]
    rfl
  have one : runM kd b s ((os.drop n).take 1) = stepM kd b s o := by
    rw [et]
    exact run1 (r := [])
  rw [step_ce h1 h2] at one
  have hc := h.cnt
  constructor
  · intro hne
    have e : readChunkEnd s o = failM "chunk" s := if_pos hne
    rw [e] at one
    have p := h.adv (k := 1) (E2 := E ++ [.err "chunk" (n : Int)]) (by omega) one (by show s.count + 1 = _; rw [hc]; rfl) (by show joinE (E ++ [.err "chunk" s.count]) = _; rw [hc]) (by rw [List.length_append]; have := h.el; show E.length + 1 ≤ _; omega) (h.ok.err _ _)
    exact p.wrong rfl ""
  · intro he
    cases q : s.ending with
    | true =>
      have e : readChunkEnd s o = ({ s with ending := false, part := "size" }, []) := by
        unfold readChunkEnd
        rw [if_neg (fun z => z he), q]
        rfl
      rw [e] at one
      rw [if_pos rfl]
      refine h.adv (k := 1) (by omega) (one.trans ?_) rfl (by rw [List.append_nil]) (by have := h.el; omega) h.ok
      show (({ s with ending := false, part := "size", count := s.count + 1 } : RS), ([] : List Evt)) = _
      rw [hc]
      rfl
    | false =>
      have e : readChunkEnd s o = ({ s with ending := true }, []) := by
        unfold readChunkEnd
        rw [if_neg (fun z => z he), q]
        rfl
      rw [e] at one
      rw [if_neg Bool.false_ne_true]
      refine h.adv (k := 1) (by omega) (one.trans ?_) rfl (by rw [List.append_nil]) (by have := h.el; omega) h.ok
      show (({ s with ending := true, count := s.count + 1 } : RS), ([] : List Evt)) = _
      rw [hc]
      rfl
end
theorem mSize_err {z k : Str} (h : mSize z = .error k) : k = "chunk" := by
  unfold mSize at h
  split at h
  · cases h
  · cases h
    rfl
theorem mSize_ok {z : Str} {n : Int} (h : mSize z = .ok n) : 0 ≤ n := by
  unfold mSize at h
  split at h
  · cases h
    exact Int.natCast_nonneg _
  · cases h
end K32

namespace K32
open PySem PySem.Spec PyProof.Rows L2
section
variable {P : Program} {w : World} {K : PySem.W.Frag} {mg : Str → Option Value} {base : Heap} {A : Adr}
/-! ### _law_chunks -/
/-- the same message -/
def SameM (s s2 : RS) : Prop := s2.now = "body" ∧ s2.start = s.start ∧ s2.asks = s.asks ∧ s2.msg = s.msg ∧ s2.last = s.last
theorem lm_body {kd : Str} {s : RS} (h1 : s.now = "body") (h2 : s.part = "size" ∨ s.part = "trailers") : LM kd s := by
  obtain ⟨_, _, _, n4⟩ := body_now h1
  refine ⟨.inr (.inr h1), fun z => n4 z.1, ?_, ?_⟩
  · rcases h2 with h | h <;> rw [h] <;> decide +kernel
  · rintro ⟨_, z⟩
    revert z
    rcases h2 with h | h <;> rw [h] <;> decide +kernel
def sp__law_chunks : Sp := fun vs H Q _ => ∃ (ps le la p d : Addr) (kd : Str) (b : Bk) (S0 s : RS) (os : List Int) (n : Nat) (E : List Evt) (asks : List Ask), vs = [.ref ps, .ref p, .ref d] ∧ LSt H ps le la n E "body" "" asks ∧ LCx A H ps le la p d b os ∧ Pos kd b S0 os n s E ∧ s.now = "body" ∧ s.part = "size" ∧ s.line = [] ∧ s.ending = false ∧
  (∀ t fs n' E' s3 H', LK ps le la ((n' : Nat) : Int) E' "body" "" asks H H' → FT H' t fs → OkFs fs → SameM s s3 → s3.part = "trailers" → FldsE kd b S0 os s3 n' fs E' → L0 kd s3 → n ≤ n' → Q (.ref t) H') ∧
  (∀ n' E' st ins H', LK ps le la n' E' st ins asks H H' → FinP kd b S0 os E' st ins → Q .non H')
abbrev N__law_chunks : List Str := ["_law_s", "_law_rules", "_law_data_here", "_law_line_here", "_law_size", "_law_end", "_law_due"]
theorem sc__law_chunks : FnScope N__law_chunks ["_law_s", "_law_rules", "_law_data_here"] (defScope s__law_chunks) := ⟨rfl, rfl, rfl, by decide +kernel, rfl, by decide +kernel, by decide +kernel⟩
theorem h__law_chunks (T : Txt K w mg A) : Has CX0 P w K mg base "_law_chunks" 7 ["_law_s", "_law_rules", "_law_data_here"] (sp__law_chunks (A := A)) := by
  refine has0 (k := 6) T.d__law_chunks sc__law_chunks (fun _ _ _ _ _ _ us hl => match us, hl with | [_, _, _], _ => rfl) (fun vs H Q E h => ?_) (fun f cdv A0 outer ss H vs Q XE hr h => ?_)
  · obtain ⟨ps, le, la, p, d, kd, b, S0, s, os, n, E, asks, rfl, _⟩ := h
    rfl
  · obtain ⟨ps, le, la, p, d, kd, b, S0, s, os, n, E0, asks, rfl, hL, hC, hP, hb1, hb2, hb3, hb4, k1, k2⟩ := h
    refine ⟨_, ((pss_one (ps_while PassesOwn.never (pt_val pe_bl)
      (pss_cons (ps_set (i := 3) sc__law_chunks.nd rfl (.inl rfl) (pe_fn (h__law_next_line T) (hr.mono (by decide)) paN (pa_cons (pv 0) (pa_cons (pv 1) (pa_cons (pv 2) pa_nil)))))
      (pss_cons (ps_if (pt_cmpR op_isN (pv 3) pe_non (nomark _)) (pss_one (ps_ret pe_non)) pss_nil)
      (pss_cons (L2N.ps_try_many rfl rfl takesN
      (fun W pn xe tk _ => (pss_one (ps_set (i := 4) sc__law_chunks.nd rfl (.inl rfl) (pe_fn (h_read_size T) (hr.mono (by decide)) (fun σ => L2N.passAt tk σ) (pa_cons (pv 3) pa_nil)))))
      (L2N.HdsOk.cons ⟨rfl, by decide, Or.inl T.g_BadLine⟩ (fun a oe cls d pn hz hf => (pss_cons (ps_expr (pe_fnH (hh__law_fail T) (L2H.roomH_mark (hr.mono (by decide)) _) (hot_suite hz hf) paN (pa_cons (pv 0) (pa_cons pe_str (pa_cons (pe_op op_sub (pe_dget (hu_ofH (L2H.roomH_mark (hr.mono (Nat.zero_le _)) _)) (pv 0) pe_str (fun _ _ => rfl)) pe_int) pa_nil)))))
      (pss_one (ps_ret pe_non)))) L2N.HdsOk.nil))
      (pss_cons (ps_if (pt_cmpR op_eq (pv 4) pe_int (nomark _)) (pss_one (ps_ret (pe_fn (h__law_fields T) (hr.mono (by decide)) paN (pa_cons (pv 0) (pa_cons (pv 1) (pa_cons (pv 2) pa_nil)))))) pss_nil)
      (pss_cons (ps_set (i := 5) sc__law_chunks.nd rfl (.inl rfl) (pe_op op_add (pe_dget (hu_of hr) (pv 0) pe_str (fun _ _ => rfl)) (pv 4)))
      (pss_cons (ps_expr (pe_fn (h__law_data T) (hr.mono (by decide)) paN (pa_cons (pv 0) (pa_cons (pv 2) (pa_cons (pv 4) pa_nil)))))
      (pss_one (ps_for PassesOwn.never rfl (pi_tup (pe_tup (pa_cons pe_int (pa_cons pe_int pa_nil)))) (pg_name (i := 6) sc__law_chunks.nd rfl (.inl rfl))
      (pss_cons (ps_if (pt_cmpR op_ge (pe_dget (hu_of hr) (pv 0) pe_str (fun _ _ => rfl)) (pe_callB call_len_seq (by rfl) T.b_len PySem.boot_len (pa_cons (pv 2) pa_nil)) (nomark _)) (pss_cons (ps_dput (hu_of hr) (pv 0) pe_str pe_str rfl)
      (pss_one (ps_ret pe_non))) pss_nil)
      (pss_cons (ps_if (PW.pt (pw_and (pt_cmpR op_ge (pe_dget (hu_of hr) (pv 0) pe_str (fun _ _ => rfl)) (pv 5) (nomark _)) (pw_and1 (pt_cmpR op_ne (pe_ix ix_list (pv 2) (pe_dget (hu_of hr) (pv 0) pe_str (fun _ _ => rfl)) (fun _ _ => rfl)) (pv 6) (nomark _))))) (pss_cons (ps_expr (pe_fn (h__law_fail T) (hr.mono (by decide)) paN (pa_cons (pv 0) (pa_cons pe_str (pa_cons (pe_dget (hu_of hr) (pv 0) pe_str (fun _ _ => rfl)) pa_nil)))))
      (pss_one (ps_ret pe_non))) pss_nil)
      (pss_one (ps_dput (hu_of hr) (pv 0) pe_str (pe_op op_add (pe_dget (hu_of hr) (pv 0) pe_str (fun _ _ => rfl)) pe_int) rfl))))))))))))))), ?_⟩
    have ol := hC.ol
    have bl0 : (0 : Int) ≤ b.line := by have := hC.ok.l1; omega
    refine ⟨fun mm σ Hx => ∃ (m : Nat) (E : List Evt) (s2 : RS) (v3 v4 v5 v6 : Option V), mm = os.length - m ∧ σ = [some (.ref ps), some (.ref p), some (.ref d), v3, v4, v5, v6] ∧ LK ps le la ((m : Nat) : Int) E "body" "" asks H Hx ∧ Pos kd b S0 os m s2 E ∧ SameM s s2 ∧ s2.part = "size" ∧ s2.line = [] ∧ s2.ending = false ∧ n ≤ m,
      ⟨os.length - n, n, E0, s, none, none, none, none, rfl, rfl, LK.here hL, hP, ⟨hb1, rfl, rfl, rfl, rfl⟩, hb2, hb3, hb4, Nat.le_refl _⟩, ?_⟩
    rintro mm σ Hx ⟨m, E, s2, v3, v4, v5, v6, rfl, rfl, lk, pos, sm, sp, sl, se, nm⟩
    refine ⟨_, rfl, iteT ?_⟩
    refine ⟨fun σ' H' => ∃ (m2 : Nat) (E : List Evt) (s2 : RS) (v3 v4 v5 v6 : Option V), m < m2 ∧ m2 ≤ os.length ∧ σ' = [some (.ref ps), some (.ref p), some (.ref d), v3, v4, v5, v6] ∧ LK ps le la ((m2 : Nat) : Int) E "body" "" asks H H' ∧ Pos kd b S0 os m2 s2 E ∧ SameM s s2 ∧ s2.part = "size" ∧ s2.line = [] ∧ s2.ending = false ∧ n ≤ m2, ?_, ?_⟩
    · rintro σ' H' ⟨m2, E, s2, v3, v4, v5, v6, lt, le2, e⟩
      exact ⟨os.length - m2, by omega, m2, E, s2, v3, v4, v5, v6, rfl, e⟩
    · have hCx := hC.keep hL lk.2
      have l0 : L0 kd s2 := ⟨lm_body sm.1 (.inl sp), sl, se⟩
      have eb := pos.el
      have pl := pos.le
      refine ⟨_, rfl, _, rfl, _, rfl, ps, le, la, p, d, b, os, m, E, "body", "", asks, rfl, lk.1, hCx, pos.le, by omega, fun octs kk H1 g1 l1 => ?_, fun a r H1 g1 l1 => ?_, fun z kk H1 g1 l1 => ?_⟩
      · have lk1 := lk.tr l1
        obtain ⟨k1', hkk, oc, ocl, pl1, pl2⟩ := pos.line bl0 l0 g1
        refine ⟨_, rfl, rfl, _, rfl, iteF ?_⟩
        have lsz : (lineS octs).length ≤ 200 := by
          rw [lineS_len]
          have := hC.ok.l2
          omega
        have rl : readLine kd b { s2 with count := ((m + kk : Nat) : Int) - 1 } (lineS octs) = (match mSize (lineS octs) with
            | .error k => .error ({ s2 with count := ((m + kk : Nat) : Int) - 1 }, k)
            | .ok n => .ok ({ s2 with count := ((m + kk : Nat) : Int) - 1, left := n, part := if 0 < n then "chunk" else "trailers", fields := [] }, [])) := if_pos sp
        refine ⟨_, rfl, lineS octs, rfl, lineS_ok oc, by omega, fun sz H2 hm e2 => ?_, fun k hm dd H2 hdd e2 hxd => ?_⟩
        · have lk2 := lk1.ex e2
          obtain ⟨fo2, hd2⟩ := lk2.atp
          have hz := mSize_ok hm
          have posC := pl1 ({ s2 with count := ((m + kk : Nat) : Int) - 1, left := sz, part := if 0 < sz then "chunk" else "trailers", fields := [] }, []) E (by rw [rl, hm]) rfl (by rw [List.append_nil]) (by omega) pos.ok
          refine ⟨_, rfl, rfl, _, rfl, ?_⟩
          rw [dec_vi]
          refine ite2 (fun c0 => ?_) (fun c0 => ?_)
          · have c0' := of_decide_eq_true c0
            have ep : (if 0 < sz then ("chunk" : Str) else "trailers") = "trailers" := if_neg (by omega)
            have posT : Pos kd b S0 os (m + kk) { s2 with count := ((m + kk : Nat) : Int), left := sz, part := "trailers", fields := [] } E := ep ▸ posC
            have tn : ("trailers" : Str) ≠ "size" := by decide +kernel
            have l0T : L0 kd { s2 with count := ((m + kk : Nat) : Int), left := sz, part := "trailers", fields := [] } := ⟨lm_body sm.1 (.inr rfl), sl, se⟩
            refine ⟨_, rfl, _, rfl, _, rfl, ps, le, la, p, d, kd, b, S0, { s2 with count := ((m + kk : Nat) : Int), left := sz, part := "trailers", fields := [] }, os, m + kk, E, asks, rfl, ?_, hC.keep hL lk2.2, posT, l0T, rfl, tn, (body_now sm.1).2.2.2, ?_, ?_⟩
            · have := lk2.1
              rw [← sm.1] at this
              exact this
            · intro t fs n' H3 l3 h1 h2 h3 h4 h5
              have l3' : LK ps le la ((n' : Nat) : Int) E "body" "" asks H2 H3 := by
                have e : ({ s2 with count := ((m + kk : Nat) : Int), left := sz, part := "trailers", fields := [] } : RS).now = "body" := sm.1
                rw [e] at l3
                exact l3
              exact k1 t fs n' E { s2 with count := ((m + kk : Nat) : Int), left := sz, part := "trailers", fields := [] } H3 (lk2.tr l3') h1 h2 ⟨sm.1, sm.2.1, sm.2.2.1, sm.2.2.2.1, sm.2.2.2.2⟩ rfl h4 l0T (by omega)
            · intro n' E' st ins H3 l3 hf
              exact k2 _ _ _ _ _ (lk2.tr l3) hf
          · have c0' : ¬ sz = 0 := fun z => c0 (decide_eq_true z)
            have zpos : 0 < sz := by omega
            have posK : Pos kd b S0 os (m + kk) { s2 with count := ((m + kk : Nat) : Int), left := sz, part := "chunk", fields := [] } E := by
              have ep : (if 0 < sz then ("chunk" : Str) else "trailers") = "chunk" := if_pos zpos
              exact ep ▸ posC
            refine ⟨_, rfl, ps, _, rfl, dget hd2 lget_at, _, rfl, _, _, rfl, rfl, ?_⟩
            have hC2 := hC.keep hL lk2.2
            refine ⟨_, rfl, _, rfl, _, rfl, ps, le, la, d, os, m + kk, E, "body", "", asks, sz, rfl, lk2.1, hC2.dat, hC2.d1, hC2.d2, hkk, by omega, hz, by omega, fun H3 l3 => ?_⟩
            have lk3 := lk2.tr l3
            refine ⟨by show 2 ≤ sizeLine; decide, fun tq htq => ⟨tq, rfl, ⟨_, SqT.of upd_same⟩, ?_⟩⟩
            have lk4 := lk3.ex (Ex.new (o := .tup [.int 13, .int 10]) htq)
            have htup : (upd H3 tq (.tup [.int 13, .int 10])) tq = some (.tup [.int 13, .int 10]) := upd_same
            generalize upd H3 tq (.tup [.int 13, .int 10]) = H4 at *
            have slen : ((os.drop (m + kk)).take sz.toNat).length ≤ os.length - (m + kk) := by
              rw [List.length_take, List.length_drop]
              omega
            have dl := dataE_len ((os.drop (m + kk)).take sz.toNat)
            have elen : (E ++ dataE ((os.drop (m + kk)).take sz.toNat)).length ≤ 1000 := by
              rw [List.length_append]
              omega
            by_cases short : ((os.drop (m + kk)).take sz.toNat).length < sz.toNat
            · have fin := posK.bodyShort sm.1 (.inr rfl) (z := sz) rfl short
              have nall : m + kk + ((os.drop (m + kk)).take sz.toNat).length = os.length := by
                rw [List.length_take, List.length_drop] at short ⊢
                omega
              refine for_it (G := fun H => SqT K H tq [.int 13, .int 10]) walk_tup (fun i σ H' => i = 0 ∧ H' = H4 ∧ ∃ v6, σ = [some (.ref ps), some (.ref p), some (.ref d), some (.str (lineS octs)), some (.int sz), some (.int (((m + kk : Nat) : Int) + sz)), v6]) ⟨rfl, rfl, _, rfl⟩ ?_ ?_ ?_
              · rintro i σ H' _ ⟨_, rfl, _⟩
                exact SqT.of htup
              · rintro i x σ H0 H' hi ⟨rfl, rfl, v6, rfl⟩ ⟨e, hx⟩
                have e' : H' = H0 := e
                subst e'
                obtain ⟨fo4, hd4⟩ := lk4.atp
                have hC4 := hC.keep hL lk4.2
                refine ⟨_, rfl, ps, _, rfl, dget hd4 lget_at, _, rfl, d, _, rfl, Or.inl (SqL.of hC4.dat), _, _, rfl, rfl, _, rfl, ?_⟩
                rw [List.length_map]
                refine ite2 (fun _ => ?_) (fun z => absurd (decide_eq_true (by rw [nall]; exact Int.le_refl _)) z)
                refine ⟨_, rfl, ps, _, rfl, dput hd4, ?_⟩
                rw [lput_inside]
                exact k2 _ _ _ _ _ (lk4.dict hd4 _ "body" "some" fo4) fin
              · rintro σ H' ⟨h, _⟩
                exact absurd h (by decide)
            · have posE := posK.chunkFull sm.1 rfl (z := sz) rfl zpos short
              have lz : ((os.drop (m + kk)).take sz.toNat).length = sz.toNat := by
                rw [List.length_take] at short ⊢
                omega
              generalize hn2 : m + kk + ((os.drop (m + kk)).take sz.toNat).length = n2 at *
              generalize E ++ dataE ((os.drop (m + kk)).take sz.toNat) = E3 at *
              have n2z : (n2 : Int) = ((m + kk : Nat) : Int) + sz := by omega
              refine for_it (G := fun H => SqT K H tq [.int 13, .int 10]) walk_tup (fun i σ H' => ∃ v6, σ = [some (.ref ps), some (.ref p), some (.ref d), some (.str (lineS octs)), some (.int sz), some (.int (((m + kk : Nat) : Int) + sz)), v6] ∧ LK ps le la ((n2 + i : Nat) : Int) E3 "body" "" asks H H' ∧ H' tq = some (.tup [.int 13, .int 10]) ∧
                  ∃ s4, Pos kd b S0 os (n2 + i) s4 E3 ∧ SameM s s4 ∧ s4.line = [] ∧ ((i = 0 ∧ s4.part = "chunk end" ∧ s4.ending = false) ∨ (i = 1 ∧ s4.part = "chunk end" ∧ s4.ending = true) ∨ (i = 2 ∧ s4.part = "size" ∧ s4.ending = false)))
                ⟨_, rfl, lk4, htup, _, posE, ⟨sm.1, sm.2.1, sm.2.2.1, sm.2.2.2.1, sm.2.2.2.2⟩, sl, .inl ⟨rfl, rfl, se⟩⟩ ?_ ?_ ?_
              · rintro i σ H' _ ⟨_, _, _, ht, _⟩
                exact SqT.of ht
              · rintro i x σ H0 H' hi ⟨v6, rfl, lk5, htu, s4, pos4, sm4, sl4, hst⟩ ⟨e, hx⟩
                have e' : H' = H0 := e
                subst e'
                obtain ⟨fo5, hd5⟩ := lk5.atp
                have hC5 := hC.keep hL lk5.2
                have hi2 : i < 2 := hi
                obtain ⟨due, hdue, hxd, hpe, hde⟩ : ∃ due : Int, x = .int due ∧ ((i = 0 ∧ due = 13) ∨ (i = 1 ∧ due = 10)) ∧ s4.part = "chunk end" ∧ due = (if s4.ending then 10 else 13) := by
                  rcases hst with ⟨rfl, h2, h3⟩ | ⟨rfl, h2, h3⟩ | ⟨rfl, _, _⟩
                  · exact ⟨13, (Option.some.inj hx).symm, .inl ⟨rfl, rfl⟩, h2, by rw [h3]; rfl⟩
                  · exact ⟨10, (Option.some.inj hx).symm, .inr ⟨rfl, rfl⟩, h2, by rw [h3]; rfl⟩
                  · omega
                subst hdue
                have el4 := pos4.el
                have le4 := pos4.le
                refine ⟨_, rfl, ps, _, rfl, dget hd5 lget_at, _, rfl, d, _, rfl, Or.inl (SqL.of hC5.dat), _, _, rfl, rfl, _, rfl, ?_⟩
                rw [List.length_map]
                refine ite2 (fun c1 => ?_) (fun c1 => ?_)
                · have c1' := of_decide_eq_true c1
                  have nall : n2 + i = os.length := by omega
                  refine ⟨_, rfl, ps, _, rfl, dput hd5, ?_⟩
                  rw [lput_inside]
                  have fin := (nall ▸ pos4 : Pos kd b S0 os os.length s4 E3).ends (ins := "some") (by decide +kernel)
                  rw [sm4.1] at fin
                  exact k2 _ _ _ _ _ (lk5.dict hd5 _ "body" "some" fo5) fin
                · have c1' : ¬ (os.length : Int) ≤ ((n2 + i : Nat) : Int) := fun z => c1 (decide_eq_true z)
                  have lt : n2 + i < os.length := by omega
                  obtain ⟨o, ho⟩ : ∃ o, os[n2 + i]? = some o := ⟨os[n2 + i], List.getElem?_eq_getElem lt⟩
                  obtain ⟨ce1, ce2⟩ := pos4.ce sm4.1 hpe ho
                  refine ⟨_, rfl, ps, _, rfl, dget hd5 lget_at, _, rfl, _, _, rfl, rfl, _, rfl, ?_⟩
                  refine ite2 (fun c2 => ?_) (fun c2 => absurd (decide_eq_true (by omega)) c2)
                  refine ⟨_, rfl, _, rfl, ps, _, rfl, dget hd5 lget_at, d, _, _, _, rfl, rfl, SqL.of hC5.dat, atI_nat (v := V.int o) (by rw [List.getElem?_map, ho]; rfl), _, rfl, rfl, _, rfl, ?_⟩
                  rw [dec_vi]
                  refine ite2 (fun c3 => ?_) (fun c3 => ?_)
                  · have c3' : o ≠ due := by simpa using c3
                    refine ⟨_, rfl, _, rfl, ps, _, rfl, dget hd5 lget_at, ps, le, la, _, E3, "body", "", asks, "chunk", _, rfl, lk5.1, by omega, fun H6 g3 g4 => ?_⟩
                    exact k2 _ _ _ _ _ (lk5.tr ⟨g3, g4⟩) (ce1 (by rw [← hde]; exact c3'))
                  · have c3' : o = due := by simpa using c3
                    refine ⟨_, rfl, ps, _, rfl, dget hd5 lget_at, _, _, rfl, rfl, _, rfl, ps, _, rfl, dput hd5, ?_⟩
                    rw [lput_at]
                    have lk6 := lk5.dict hd5 (((n2 + i : Nat) : Int) + 1) "body" "" fo5
                    have e6 : ((n2 + i : Nat) : Int) + 1 = ((n2 + (i + 1) : Nat) : Int) := by omega
                    have tqp : tq ≠ ps := fun z => by rw [z, hd5] at htu; cases htu
                    have p6 := ce2 (by rw [← hde]; exact c3')
                    refine ⟨_, rfl, e6 ▸ lk6, (upd_ne tqp).trans htu, _, p6, ?_⟩
                    rcases hst with ⟨rfl, h2, h3⟩ | ⟨rfl, h2, h3⟩ | ⟨rfl, _, _⟩
                    · rw [h3]
                      exact ⟨sm4, sl4, .inr (.inl ⟨rfl, h2, rfl⟩)⟩
                    · rw [h3]
                      exact ⟨sm4, sl4, .inr (.inr ⟨rfl, rfl, rfl⟩)⟩
                    · omega
              · rintro σ H' ⟨v6, rfl, lk5, htu, s4, pos4, sm4, sl4, hst⟩
                rcases hst with ⟨h, _⟩ | ⟨h, _⟩ | ⟨_, h2, h3⟩
                · exact absurd h (by decide)
                · exact absurd h (by decide)
                · exact ⟨n2 + 2, E3, s4, _, _, _, _, by omega, pos4.le, rfl, lk5, pos4, sm4, h2, sl4, h3, by omega⟩
        · have lk2 := lk1.ex e2
          obtain ⟨fo2, hd2⟩ := lk2.atp
          refine ⟨true, T.x_LL, fun _ a ha => ?_, fun z => by cases z⟩
          have kc := mSize_err hm
          refine ⟨_, rfl, _, rfl, ps, _, rfl, dget hd2 lget_at, _, _, rfl, rfl, ps, le, la, _, E, "body", "", asks, "chunk", _, rfl, lk2.1, by omega, fun H3 g3 g4 => ?_⟩
          exact k2 _ _ _ _ _ (lk2.tr ⟨g3, g4⟩) (kc ▸ pl2 _ k "" (by rw [rl, hm]) rfl)
      · refine ⟨_, rfl, rfl, _, rfl, iteT ?_⟩
        have fin := pos.more l0 g1 (ins := "some") (by decide +kernel)
        rw [sm.1] at fin
        exact k2 _ _ _ _ _ (lk.tr l1) fin
      · refine ⟨_, rfl, rfl, _, rfl, iteT ?_⟩
        exact k2 _ _ _ _ _ (lk.tr l1) (pos.lineErr l0 g1 "")
end
end K32


namespace K32
open PySem PySem.Spec PyProof.Rows L2
section
variable {P : Program} {w : World} {K : PySem.W.Frag} {mg : Str → Option Value} {base : Heap} {A : Adr}
/-! ### _law_body -/
/-- the law's state behind the end of a message -/
def EndSt (kd : Str) (b : Bk) (st : Stt) (fs : List Fld) (fr : Fr) (asks : List Ask) (z : Str) (asks' : List Ask) : Prop :=
  (kd = RESPS → ∃ a0 ar, asks = a0 :: ar ∧ asks' = ar ∧ z = (if fr = .switch then ("raw" : Str) else if a0.last = true then "over" else if persB st.ver fs b = true then "start" else "over")) ∧
  (kd = REQS → asks' = asks ∧ z = (if (upB st.ver fs || decide (st.meth = "CONNECT")) = true then ("waiting" : Str) else if persB st.ver fs b = true then "start" else "over"))
/-- between messages -/
def Bnd (kd : Str) (b : Bk) (S0 : RS) (os : List Int) (n : Nat) (E : List Evt) (z : Str) (asks : List Ask) : Prop :=
  ∃ s, Pos kd b S0 os n s E ∧ s.now = z ∧ s.part = "" ∧ s.line = [] ∧ s.ending = false ∧ s.asks = asks ∧ (z = "start" ∨ z = "over" ∨ z = "waiting" ∨ z = "raw")
theorem stt_at {kd : Str} {st : Stt} (h : StOk kd st) : ∃ x y, st.vs = [x, y, .int st.ver] := by
  cases st with
  | no => exact h.elim
  | req a c v => exact ⟨_, _, rfl⟩
  | sta a c v => exact ⟨_, _, rfl⟩
theorem end_bnd {kd : Str} {b : Bk} {S0 s sx : RS} {os : List Int} {n : Nat} {E : List Evt} {asks asks' : List Ask} {st : Stt} {fs tfs : List Fld} {fr : Fr} {z : Str} (hkk : kd = REQS ∨ kd = RESPS) (hsw : fr = .switch → kd = RESPS) (sl : sx.line = []) (se : sx.ending = false) (sa : sx.asks = asks) (slast : sx.last = !persB st.ver fs b)
    (smsg : kd = REQS → sx.msg = ⟨st.meth, upB st.ver fs, !persB st.ver fs b⟩) (hs : s = { (endMsg kd sx tfs).1 with count := (n : Int), now := if fr = .switch then ("raw" : Str) else (endMsg kd sx tfs).1.now }) (pos : Pos kd b S0 os n s E) (he : EndSt kd b st fs fr asks z asks') : Bnd kd b S0 os n E z asks' := by
  have nk : ¬ RESPS = REQS := kinds_ne
  have hz : z = "start" ∨ z = "over" ∨ z = "waiting" ∨ z = "raw" := by
    rcases hkk with hk | hk
    · rw [(he.2 hk).2]
      repeat' split
      all_goals simp
    · obtain ⟨a0, ar, _, _, h3⟩ := he.1 hk
      rw [h3]
      repeat' split
      all_goals simp
  refine ⟨s, pos, ?_, ?_, ?_, ?_, ?_, hz⟩
  · rw [hs]
    show (if fr = .switch then ("raw" : Str) else (endMsg kd sx tfs).1.now) = z
    rcases hkk with hk | hk
    · obtain ⟨_, h2⟩ := he.2 hk
      have nsw : ¬ fr = .switch := fun q => nk ((hsw q).symm.trans hk)
      rw [if_neg nsw, h2]
      have e : endMsg kd sx tfs = (if sx.msg.sw then { sx with part := "", now := "waiting" } else { sx with part := "", now := if sx.last then "over" else "start" }, [.fin tfs]) := by
        unfold endMsg
        rw [if_neg (by rw [hk]; exact fun q => nk q.symm)]
      rw [e]
      have em : sx.msg.sw = (upB st.ver fs || decide (st.meth = "CONNECT")) := by
        rw [smsg hk]
        rfl
      rw [em, slast]
      cases (upB st.ver fs || decide (st.meth = "CONNECT")) with
      | true => rfl
      | false => cases persB st.ver fs b <;> rfl
    · obtain ⟨a0, ar, h1, _, h2⟩ := he.1 hk
      rw [h2]
      by_cases q : fr = .switch
      · rw [if_pos q, if_pos q]
      · rw [if_neg q, if_neg q]
        have e : endMsg kd sx tfs = ({ sx with part := "", asks := sx.asks.tail, now := if sx.last || (sx.asks.headD ⟨"", false, false⟩).last then "over" else "start" }, [.fin tfs]) := by
          unfold endMsg
          rw [if_pos hk]
        rw [e, slast, sa, h1]
        show (if (!persB st.ver fs b || a0.last) = true then ("over" : Str) else "start") = _
        cases a0.last <;> cases persB st.ver fs b <;> rfl
  all_goals
    rw [hs]
    unfold endMsg
    rcases hkk with hk | hk
    · rw [if_neg (by rw [hk]; exact fun q => nk q.symm)]
      first
        | rfl
        | (split <;> first | rfl | exact sl | exact se | exact sa.trans (he.2 hk).1.symm)
    · first
        | (rw [if_pos hk]; done)
        | (rw [if_pos hk]; exact sl)
        | (rw [if_pos hk]; exact se)
        | (rw [if_pos hk]
           obtain ⟨a0, ar, h1, h2, _⟩ := he.1 hk
           show sx.asks.tail = _
           rw [sa, h1, h2]
           done)
        | (rw [if_pos hk]
           obtain ⟨a0, ar, h1, h2, _⟩ := he.1 hk
           show sx.asks.tail = _
           rw [sa, h1, h2]
           rfl)
theorem Pos.lenFull {kd : Str} {b : Bk} {S0 s : RS} {os : List Int} {n : Nat} {E : List Evt} (h : Pos kd b S0 os n s E) (h1 : s.now = "body") (h2 : s.part = "length") {z : Int} (hz : s.left = z) (h0 : 0 < z) (hs : ¬ ((os.drop n).take z.toNat).length < z.toNat) (hroom : E.length + 1 ≤ n) :
    ∃ c : Int, Pos kd b S0 os (n + ((os.drop n).take z.toNat).length) { (endMsg kd { s with left := 0, count := c } []).1 with count := ((n + ((os.drop n).take z.toNat).length : Nat) : Int) } ((E ++ dataE ((os.drop n).take z.toNat)) ++ [.fin []]) := by
  have hl : ((os.drop n).take z.toNat).length = z.toNat := by
    rw [List.length_take] at hs ⊢
    omega
  have hn := h.le
  have hd : z.toNat ≤ os.length - n := by
    rw [List.length_take, List.length_drop] at hl
    omega
  have et : (os.drop n).take ((os.drop n).take z.toNat).length = (os.drop n).take z.toNat := by rw [hl]
  have dl := dataE_len ((os.drop n).take z.toNat)
  have hok := h.ok.app (dataE_ok ((os.drop n).take z.toNat))
  have hj := join_data E ((os.drop n).take z.toNat)
  generalize hx : (os.drop n).take z.toNat = x at *
  have ne : x ≠ [] := fun q => by
    rw [q] at hl
    simp at hl
    omega
  obtain ⟨y, o, rfl⟩ : ∃ y o, x = y ++ [o] := ⟨x.dropLast, x.getLast ne, (List.dropLast_concat_getLast ne).symm⟩
  have ly : (y ++ [o]).length = y.length + 1 := by simp
  have hr := run_full (kd := kd) (b := b) (x := y) (o := o) h1 (.inl h2) (by rw [hz]; omega)
  have nc : ¬ s.part = "chunk" := by rw [h2]; decide +kernel
  rw [if_neg nc] at hr
  have hc := h.cnt
  refine ⟨s.count + (y.length : Int), ?_⟩
  have ee : (endMsg kd { s with left := 0, count := s.count + (y.length : Int) } []).2 = [.fin []] := by
    unfold endMsg
    split <;> rfl
  rw [ee] at hr
  have ec : s.count + ((y.length + 1 : Nat) : Int) = ((n + (y ++ [o]).length : Nat) : Int) := by
    rw [hc, ly]
    omega
  rw [ec] at hr
  refine h.adv (k := (y ++ [o]).length) (by omega) (by rw [et]; exact hr) rfl (by rw [← List.append_assoc]; exact joinE_congr _ hj) ?_ (hok.app (fun e he => by rw [List.mem_singleton.mp he]; trivial))
  rw [List.length_append, List.length_append]
  simp only [List.length_cons, List.length_nil] at dl ly ⊢
  omega
def sp__law_body : Sp := fun vs H Q _ => ∃ (ps le la p d th ts tf tq : Addr) (kd : Str) (b : Bk) (S0 s : RS) (os : List Int) (n : Nat) (E : List Evt) (asks : List Ask) (st : Stt) (fs : List Fld) (fr : Fr),
  vs = [.ref ps, .str kd, .ref p, .ref d, .ref th] ∧ H th = some (.tup [.ref ts, .ref tf, .ref tq]) ∧ H ts = some (.tup st.vs) ∧ FT H tf fs ∧ H tq = some (.tup fr.v) ∧ (kd = REQS ∨ kd = RESPS) ∧ StOk kd st ∧ OkFs fs ∧
  LSt H ps le la n E "body" "" asks ∧ LCx A H ps le la p d b os ∧ n ≤ os.length ∧ E.length + 1 ≤ n ∧ EvsOk E ∧ fr ≠ .info ∧ (∀ z, fr = .len z → 0 ≤ z) ∧ (fr = .switch → kd = RESPS) ∧ (kd = RESPS → asks ≠ []) ∧
  s.line = [] ∧ s.ending = false ∧ s.asks = asks ∧ s.last = !persB st.ver fs b ∧ (kd = REQS → s.msg = ⟨st.meth, upB st.ver fs, !persB st.ver fs b⟩) ∧
  Pos kd b S0 os n { (beginBody kd s fr).1 with count := (n : Int) } (E ++ (beginBody kd s fr).2) ∧
  (∀ n' E' z asks' H', LK ps le la ((n' : Nat) : Int) E' z "" asks' H H' → Bnd kd b S0 os n' E' z asks' → n ≤ n' → Q .non H') ∧
  (∀ n' E' z ins asks' H', LK ps le la n' E' z ins asks' H H' → FinP kd b S0 os E' z ins → Q .non H')
abbrev N__law_body : List Str := ["_law_s", "_law_kind", "_law_rules", "_law_data_here", "_law_head_here", "_law_start_here", "_law_fields_here", "_law_frame_here", "_law_end", "_law_trailers", "_law_is_last", "_law_asked"]
theorem sc__law_body : FnScope N__law_body ["_law_s", "_law_kind", "_law_rules", "_law_data_here", "_law_head_here"] (defScope s__law_body) := ⟨rfl, rfl, rfl, by decide +kernel, rfl, by decide +kernel, by decide +kernel⟩
theorem h__law_body (T : Txt K w mg A) : Has CX0 P w K mg base "_law_body" 8 ["_law_s", "_law_kind", "_law_rules", "_law_data_here", "_law_head_here"] (sp__law_body (A := A)) := by
  refine has0 (k := 7) T.d__law_body sc__law_body (fun _ _ _ _ _ _ us hl => match us, hl with | [_, _, _, _, _], _ => rfl) (fun vs H Q E h => ?_) (fun f cdv A0 outer ss H vs Q XE hr h => ?_)
  · obtain ⟨ps, le, la, p, d, th, ts, tf, tq, kd, b, S0, s, os, n, E, asks, st, fs, fr, rfl, _⟩ := h
    rfl
  · obtain ⟨ps, le, la, p, d, th, ts, tf, tq, kd, b, S0, s, os, n, E, asks, st, fs, fr, rfl, hth, hts, htf, htq, hkk, hst, hok, hL, hC, hn, hEl, hEo, hni, hlz, hsw, hask, sl, se, sa, slast, smsg, pos, k1, k2⟩ := h
    have ol := hC.ol
    obtain ⟨v0, v1, hvs⟩ := stt_at hst
    -- behind the end event: the state
    obtain ⟨tC, tailC, hC7⟩ : ∃ tC, PSs (cxOf CX0 P w K mg base N__law_body "_law_body" (defScope s__law_body) f cdv A0 outer ss H XE).nox ((defBody s__law_body).drop 7) tC ∧
        (∀ (H1 : Hp) (n1 : Nat) (E1 : List Evt) (v8 : Option V) (t9 : Addr) (x10 : Bool) (R : Hp → Prop), LK ps le la ((n1 : Nat) : Int) E1 (if persB st.ver fs b = true then ("start" : Str) else "over") "" asks H H1 → Tk H H1 →
          (∀ H' z asks', LK ps le la ((n1 : Nat) : Int) E1 z "" asks' H H' → EndSt kd b st fs fr asks z asks' → Q .non H') →
          tC { nx := fun _ H' => Q .non H', rt := Q } [some (.ref ps), some (.str kd), some (.ref p), some (.ref d), some (.ref th), some (.ref ts), some (.ref tf), some (.ref tq), v8, some (.ref t9), some (.bl x10), none] H1) := by
      refine ⟨_, ((pss_one (ps_if (pt_cmpR op_eq (pv 1) pe_str (nomark _)) (pss_cons (ps_set (i := 11) sc__law_body.nd rfl (.inl rfl) (pe_bm PySem.F.plainAttrs_list PySem.F.slot_list_pop PySem.F.type_list_pop mt_popAt (pe_dget (hu_of hr) (pv 0) pe_str (fun _ _ => rfl)) (pa_cons pe_int pa_nil)))
      (pss_one (ps_dput (hu_of hr) (pv 0) pe_str (pe_ifExp (pt_cmpR (op_eqD hr.units) (pv 7) (pe_tup (pa_cons pe_str pa_nil)) (nomark _)) pe_str (pe_ifExp (pt_val (pe_ix ix_tup (pv 11) pe_int (fun _ _ => rfl))) pe_str (pe_dget (hu_of hr) (pv 0) pe_str (fun _ _ => rfl)))) rfl))) (pss_one (ps_if (PW.pt (pw_or (pt_cmpR op_eq (pe_ix ix_tup (pv 5) pe_int (fun _ _ => rfl)) pe_str (nomark _)) (pw_or1 (PW.pt (pw_and (pt_cmpR op_eq (pe_ix ix_tup (pv 5) pe_int (fun _ _ => rfl)) pe_int (nomark _)) (pw_and1 (pt_cmpR op_in_seq pe_str (pe_fn (h_items_of T) (hr.mono (by decide)) paN (pa_cons (pv 6) (pa_cons pe_str pa_nil))) (by rfl)))))))) (pss_one (ps_dput (hu_of hr) (pv 0) pe_str pe_str rfl)) pss_nil))))), fun H1 n1 E1 v8 t9 x10 R lk tk kf => ?_⟩
      obtain ⟨fo1, hd1⟩ := lk.atp
      have hts1 := tk _ _ hts
      rw [hvs] at hts1
      refine ⟨_, rfl, rfl, _, rfl, ?_⟩
      rw [dec_vs]
      refine ite2 (fun c1 => ?_) (fun c1 => ?_)
      · have hk : kd = RESPS := of_decide_eq_true c1
        have nk : ¬ kd = REQS := fun z => kinds_ne (hk.symm.trans z)
        obtain ⟨ys, hy, py⟩ := lk.1.ak
        cases qa : asks with
        | nil => exact absurd qa (hask hk)
        | cons a0 ar =>
          rw [qa] at py
          cases py with
          | @cons y0 _ yr _ r0 rr =>
            obtain ⟨ta, rfl, hta⟩ := r0
            refine ⟨_, rfl, ps, _, rfl, dget hd1 lget_asks, Or.inl ⟨rfl, _, SqL.of hy⟩, la, _, 0, 0, _, rfl, rfl, hy, by decide, by decide, (by simp [seqIndex?]), rfl, ?_⟩
            have tk2 : Tk H1 (upd H1 la (.lst yr)) := Tk.upd hy (fun _ z => by cases z)
            have lk2 : LK ps le la ((n1 : Nat) : Int) E1 (if persB st.ver fs b = true then ("start" : Str) else "over") "" ar H (upd H1 la (.lst yr)) := by
              obtain ⟨⟨_, ⟨xs, hx, px⟩, _, ne⟩, kk⟩ := lk
              have pl : ps ≠ la := fun z => by rw [z, hy] at hd1; cases hd1
              exact ⟨⟨⟨fo1, (upd_ne pl).trans hd1⟩, ⟨xs, (upd_ne ne).trans hx, evs_mono tk2 px⟩, ⟨yr, upd_same, L2.Paired.mapP rr fun _ _ q => q.mono tk2⟩, ne⟩, kk.tr (Kept.upd (by simp))⟩
            rw [show (V.ref ta :: yr).eraseIdx 0 = yr from rfl]
            have hta2 := tk2 _ _ hta
            have htq2 := tk2 _ _ (tk _ _ htq)
            obtain ⟨fo2, hd2⟩ := lk2.atp
            generalize upd H1 la (.lst yr) = H2 at *
            have fin : ∀ H3, Ex H2 H3 → ∀ z : Str, z = (if fr = .switch then ("raw" : Str) else if a0.last = true then "over" else if persB st.ver fs b = true then "start" else "over") → ∃ fo3, H3 ps = some (.dK (lsk n1 le (if persB st.ver fs b = true then ("start" : Str) else "over") "" la fo3)) ∧ Q .non (upd H3 ps (.dK (lsk n1 le z "" la fo3))) := fun H3 e3 z hz => by
              have lk3 := lk2.ex e3
              obtain ⟨fo3, hd3⟩ := lk3.atp
              exact ⟨fo3, hd3, kf _ z ar (lk3.dict hd3 _ z "" fo3) ⟨fun _ => ⟨a0, ar, qa, rfl, hz⟩, fun h => absurd h nk⟩⟩
            refine ⟨_, rfl, by show 1 ≤ sizeLine; decide, fun q1 hq1 => ?_⟩
            have e3 := Ex.new (o := .tup [.str "switch"]) hq1
            refine ⟨frD fr, .tuple [.str "switch"], frD_dp (e3 _ _ htq2), one_dp upd_same, frD_sh fr, by decide +kernel, _, rfl, ?_⟩
            rw [eq_switch]
            refine ite2 (fun c2 => ?_) (fun c2 => ?_)
            · have c2' := of_decide_eq_true c2
              obtain ⟨fo3, hd3, q3⟩ := fin _ e3 "raw" (if_pos c2').symm
              refine ⟨_, rfl, ps, _, rfl, dput hd3, ?_⟩
              rw [lput_state]
              exact q3
            · have c2' : ¬ fr = .switch := fun z => c2 (decide_eq_true z)
              refine ⟨_, rfl, ta, [.str a0.method, .bl a0.up, .bl a0.last], 2, .bl a0.last, rfl, rfl, SqT.of (e3 _ _ hta2), rfl, _, rfl, ?_⟩
              refine ite2 (fun c3 => ?_) (fun c3 => ?_)
              · obtain ⟨fo3, hd3, q3⟩ := fin _ e3 "over" (by rw [if_neg c2', if_pos c3])
                refine ⟨_, rfl, ps, _, rfl, dput hd3, ?_⟩
                rw [lput_state]
                exact q3
              · obtain ⟨fo3, hd3, q3⟩ := fin _ e3 (if persB st.ver fs b = true then ("start" : Str) else "over") (by rw [if_neg c2', if_neg c3])
                refine ⟨_, rfl, ps, _, rfl, dget hd3 lget_state, _, rfl, ps, _, rfl, dput hd3, ?_⟩
                rw [lput_state]
                exact q3
      · have nk : ¬ kd = RESPS := fun z => c1 (decide_eq_true z)
        have hk : kd = REQS := hkk.resolve_right nk
        obtain ⟨ma, mc, mv, rfl⟩ : ∃ a c v, st = .req a c v := by
          cases st with
          | no => exact hst.elim
          | req a c v => exact ⟨a, c, v, rfl⟩
          | sta a c v => exact absurd hst nk
        have hts2 : H1 ts = some (.tup [.str ma, .str mc, .int mv]) := tk _ _ hts
        have fin : ∀ H3, Ex H1 H3 → (upB mv fs || decide (ma = "CONNECT")) = true → ∃ fo3, H3 ps = some (.dK (lsk n1 le (if persB mv fs b = true then ("start" : Str) else "over") "" la fo3)) ∧ Q .non (upd H3 ps (.dK (lsk n1 le "waiting" "" la fo3))) := fun H3 e3 hu => by
          have lk3 := lk.ex e3
          obtain ⟨fo3, hd3⟩ := lk3.atp
          exact ⟨fo3, hd3, kf _ _ asks (lk3.dict hd3 _ "waiting" "" fo3) ⟨fun h => absurd h nk, fun _ => ⟨rfl, (if_pos hu).symm⟩⟩⟩
        have no : ∀ H3, Ex H1 H3 → (upB mv fs || decide (ma = "CONNECT")) = false → Q .non H3 := fun H3 e3 hu => kf _ _ asks (lk.ex e3) ⟨fun h => absurd h nk, fun _ => ⟨rfl, (if_neg (by rw [show (upB (Stt.ver (.req ma mc mv)) fs || decide (Stt.meth (.req ma mc mv) = "CONNECT")) = (upB mv fs || decide (ma = "CONNECT")) from rfl, hu]; exact Bool.noConfusion)).symm⟩⟩
        refine ⟨_, rfl, ts, _, 0, _, rfl, rfl, SqT.of hts2, rfl, rfl, _, rfl, ?_⟩
        rw [dec_vs]
        refine ite2 (fun c2 => ?_) (fun c2 => ?_)
        · obtain ⟨fo3, hd3, q3⟩ := fin _ (Ex.rfl' _) (by rw [c2, Bool.or_true])
          refine ⟨_, rfl, ps, _, rfl, dput hd3, ?_⟩
          rw [lput_state]
          exact q3
        · rw [Bool.not_eq_true] at c2
          refine ⟨_, rfl, ts, _, 2, _, rfl, rfl, SqT.of hts2, rfl, rfl, _, rfl, ?_⟩
          rw [dec_vi]
          refine ite2 (fun c3 => ?_) (fun c3 => ?_)
          · refine ⟨_, rfl, tf, _, fs, rfl, htf.mono tk, hok, by decide +kernel, fun p1 H3 hp1 e3 hx => ?_⟩
            refine ⟨p1, _, rfl, Or.inl (SqL.of hx), rfl, all_flat_strs _, _, rfl, ?_⟩
            rw [show (if false = true then !inV (.str "upgrade") ((itemsOf fs "connection").map V.str) else inV (.str "upgrade") ((itemsOf fs "connection").map V.str)) = decide (("upgrade" : Str) ∈ itemsOf fs "connection") from inV_strs _ _]
            refine ite2 (fun c4 => ?_) (fun c4 => ?_)
            · obtain ⟨fo3, hd3, q3⟩ := fin _ e3 (by unfold upB; rw [c3, c4]; rfl)
              refine ⟨_, rfl, ps, _, rfl, dput hd3, ?_⟩
              rw [lput_state]
              exact q3
            · rw [Bool.not_eq_true] at c4
              exact no _ e3 (by unfold upB; rw [c3, c4, c2]; rfl)
          · rw [Bool.not_eq_true] at c3
            exact no _ (Ex.rfl' _) (by unfold upB; rw [c3, c2]; rfl)
    obtain ⟨tB, tailB, hB4⟩ : ∃ tB, PSs (cxOf CX0 P w K mg base N__law_body "_law_body" (defScope s__law_body) f cdv A0 outer ss H XE).nox ((defBody s__law_body).drop 4) tB ∧
        (∀ (H1 : Hp) (n1 : Nat) (E1 : List Evt) (v8 : Option V) (t : Addr) (tfs : List Fld), LK ps le la ((n1 : Nat) : Int) E1 "body" "" asks H H1 → Tk H H1 → FT H1 t tfs → E1.length ≤ 1000 →
          (∀ H' z asks', LK ps le la ((n1 : Nat) : Int) (E1 ++ [.fin tfs]) z "" asks' H H' → EndSt kd b st fs fr asks z asks' → Q .non H') →
          tB { nx := fun _ H' => Q .non H', rt := Q } [some (.ref ps), some (.str kd), some (.ref p), some (.ref d), some (.ref th), some (.ref ts), some (.ref tf), some (.ref tq), v8, some (.ref t), none, none] H1) := by
      refine ⟨_, ((pss_cons (ps_expr (pe_bm PySem.F.plainAttrs_list PySem.F.slot_list_append PySem.F.type_list_append mt_append (pe_dget (hu_of hr) (pv 0) pe_str (fun _ _ => rfl)) (pa_cons (pe_tup (pa_cons pe_str (pa_cons (pv 9) pa_nil))) pa_nil)))
      (pss_cons (ps_set (i := 10) sc__law_body.nd rfl (.inl rfl) (pe_not (pe_fnK (h_persists T) (hr.mono (by decide)) paN (pa_cons (pe_ix ix_tup (pv 5) pe_int (fun _ _ => rfl)) (pa_cons (pv 6) pa_nil)) (pk_cons (pv 2) pk_nil))))
      (pss_cons (ps_dput (hu_of hr) (pv 0) pe_str (pe_ifExp (pt_val (pv 10)) pe_str pe_str) rfl)
      tailC)))), fun H1 n1 E1 v8 t tfs lk tk hft el kf => ?_⟩
      obtain ⟨fo1, hd1⟩ := lk.atp
      obtain ⟨xs, hx, px⟩ := lk.1.ev
      have lx := px.length
      refine ⟨_, rfl, ps, _, rfl, dget hd1 lget_events, Or.inl ⟨rfl, _, SqL.of hx⟩, _, rfl, by show 2 ≤ sizeLine; decide, fun u hu => ?_⟩
      have e2 := Ex.new (o := .tup [.str "end", .ref t]) hu
      refine ⟨le, xs, .ref u, rfl, rfl, e2 _ _ hx, Nat.lt_of_le_of_lt (by omega : xs.length ≤ 1000) (by decide), ?_⟩
      have lk2 : LK ps le la ((n1 : Nat) : Int) (E1 ++ [.fin tfs]) "body" "" asks H _ := ⟨(lk.ex e2).1.push (x := .ref u) (e := .fin tfs) (e2 _ _ hx) ⟨u, _, rfl, upd_same, t, rfl, hft.mono (Tk.of e2)⟩ (evs_mono (Tk.of e2) px), (lk.ex e2).2.tr (Kept.upd (by simp))⟩
      have tk2 := tk.tr ((Tk.of e2).tr (Tk.upd (o := .lst (xs ++ [.ref u])) (e2 _ _ hx) (fun _ z => by cases z)))
      have hC2 := hC.keep hL lk2.2
      have hts2 := tk2 _ _ hts
      rw [hvs] at hts2
      refine ⟨_, rfl, ts, _, 2, _, rfl, rfl, SqT.of hts2, rfl, _, rfl, _, rfl, rfl, rfl, st.ver, tf, p, fs, b, rfl, htf.mono tk2, hok, hC2.bk, fun H3 e3 => ⟨_, rfl, ?_⟩⟩
      have lk3 := lk2.ex e3
      obtain ⟨fo3, hd3⟩ := lk3.atp
      have tk3 := tk2.tr (Tk.of e3)
      have tk4 : ∀ z : Str, Tk H (upd H3 ps (.dK (lsk n1 le z "" la fo3))) := fun z => tk3.tr (Tk.upd hd3 (fun _ q => by cases q))
      refine ⟨_, rfl, _, rfl, ?_⟩
      refine ite2 (fun c1 => ?_) (fun c1 => ?_)
      · have c1' : persB st.ver fs b = false := by simpa using c1
        refine ⟨_, rfl, ps, _, rfl, dput hd3, ?_⟩
        rw [lput_state]
        refine hC7 _ n1 (E1 ++ [.fin tfs]) v8 t _ (fun _ => True) ?_ (tk4 "over") kf
        rw [c1']
        exact lk3.dict hd3 _ "over" "" fo3
      · have c1' : persB st.ver fs b = true := by simpa using c1
        refine ⟨_, rfl, ps, _, rfl, dput hd3, ?_⟩
        rw [lput_state]
        refine hC7 _ n1 (E1 ++ [.fin tfs]) v8 t _ (fun _ => True) ?_ (tk4 "start") kf
        rw [c1']
        exact lk3.dict hd3 _ "start" "" fo3
    obtain ⟨fo, hd⟩ := hL.at_
    refine ⟨_, ((pss_cons (ps_asg (pv 4) (pg_tup (by rfl) (pgs_cons (pg_name (i := 5) sc__law_body.nd rfl (.inl rfl)) (pgs_cons (pg_name (i := 6) sc__law_body.nd rfl (.inl rfl)) (pgs_cons (pg_name (i := 7) sc__law_body.nd rfl (.inl rfl)) pgs_nil)))))
      (pss_cons (ps_if (pt_cmpR op_eq (pe_ix ix_tup (pv 7) pe_int (fun _ _ => rfl)) pe_str (nomark _)) (pss_cons (ps_set (i := 8) sc__law_body.nd rfl (.inl rfl) (pe_op op_add (pe_dget (hu_of hr) (pv 0) pe_str (fun _ _ => rfl)) (pe_ix ix_tup (pv 7) pe_int (fun _ _ => rfl))))
      (pss_cons (ps_expr (pe_fn (h__law_data T) (hr.mono (by decide)) paN (pa_cons (pv 0) (pa_cons (pv 3) (pa_cons (pe_ix ix_tup (pv 7) pe_int (fun _ _ => rfl)) pa_nil)))))
      (pss_one (ps_if (pt_cmpR op_lt (pe_dget (hu_of hr) (pv 0) pe_str (fun _ _ => rfl)) (pv 8) (nomark _)) (pss_cons (ps_dput (hu_of hr) (pv 0) pe_str pe_str rfl)
      (pss_one (ps_ret pe_non))) pss_nil)))) (pss_one (ps_if (pt_cmpR (op_eqD hr.units) (pv 7) (pe_tup (pa_cons pe_str pa_nil)) (nomark _)) (pss_cons (ps_dput (hu_of hr) (pv 0) pe_str pe_str rfl)
      (pss_one (ps_ret (pe_fn (h__law_data T) (hr.mono (by decide)) paN (pa_cons (pv 0) (pa_cons (pv 3) (pa_cons (pe_callB call_len_seq (by rfl) T.b_len PySem.boot_len (pa_cons (pv 3) pa_nil)) pa_nil))))))) pss_nil)))
      (pss_cons (ps_set (i := 9) sc__law_body.nd rfl (.inl rfl) (pe_ifExp (pt_cmpR (op_eqD hr.units) (pv 7) (pe_tup (pa_cons pe_str pa_nil)) (nomark _)) (pe_fn (h__law_chunks T) (hr.mono (by decide)) paN (pa_cons (pv 0) (pa_cons (pv 2) (pa_cons (pv 3) pa_nil)))) (pe_tup pa_nil)))
      (pss_cons (ps_if (pt_cmpR op_isN (pv 9) pe_non (nomark _)) (pss_one (ps_ret pe_non)) pss_nil)
      tailB))))), ?_⟩
    refine ⟨_, rfl, th, _, rfl, SqT.of hth, rfl, _, _, rfl, _, _, rfl, _, _, rfl, rfl, ?_⟩
    have lk0 := LK.here hL
    -- no trailers, the frame not chunked: to the end
    have plain : ∀ (H1 : Hp) (n1 : Nat) (E1 : List Evt) (v8 : Option V), fr ≠ .chunked → LK ps le la ((n1 : Nat) : Int) E1 "body" "" asks H H1 → Tk H H1 → E1.length ≤ 900 →
        (∀ z asks', EndSt kd b st fs fr asks z asks' → Bnd kd b S0 os n1 (E1 ++ [.fin []]) z asks') → n ≤ n1 →
        ∀ q, H1 q = none → ∀ t, (upd H1 q (.tup [.str "chunked"])) t = none → tB { nx := fun _ H' => Q .non H', rt := Q } [some (.ref ps), some (.str kd), some (.ref p), some (.ref d), some (.ref th), some (.ref ts), some (.ref tf), some (.ref tq), v8, some (.ref t), none, none] (upd (upd H1 q (.tup [.str "chunked"])) t (.tup [])) := by
      intro H1 n1 E1 v8 hnc lk tk el hb nn q hq t ht
      have e := (Ex.new (o := .tup [.str "chunked"]) hq).tr (Ex.new (o := .tup []) ht)
      exact hB4 _ n1 E1 v8 t [] (lk.ex e) (tk.tr (Tk.of e)) ⟨[], upd_same, .nil⟩ (by omega) fun H' z asks' l he => k1 n1 _ z asks' H' l (hb z asks' he) nn
    cases hfr : fr with
    | info => exact absurd hfr hni
    | len z =>
      have hz := hlz z hfr
      rw [hfr] at htq
      refine ⟨_, rfl, tq, [.str "length", .int z], 0, _, rfl, rfl, SqT.of htq, rfl, rfl, _, rfl, iteT ?_⟩
      refine ⟨_, rfl, ps, _, rfl, dget hd lget_at, _, rfl, tq, [.str "length", .int z], 1, _, rfl, rfl, SqT.of htq, rfl, _, _, rfl, rfl, ?_⟩
      refine ⟨_, rfl, _, rfl, _, rfl, tq, [.str "length", .int z], 1, _, rfl, rfl, SqT.of htq, rfl, ps, le, la, d, os, n, E, "body", "", asks, z, rfl, hL, hC.dat, hC.d1, hC.d2, hn, by omega, hz, by omega, fun H1 lk1 => ?_⟩
      obtain ⟨fo1, hd1⟩ := lk1.atp
      have tk1 := hL.tk lk1.2
      have dl := dataE_len ((os.drop n).take z.toNat)
      have sl2 : ((os.drop n).take z.toNat).length ≤ os.length - n := by
        rw [List.length_take, List.length_drop]
        omega
      refine ⟨_, rfl, ps, _, rfl, dget hd1 lget_at, _, rfl, _, _, rfl, rfl, _, rfl, ?_⟩
      by_cases z0 : z = 0
      · have e0 : (os.drop n).take z.toNat = [] := by rw [z0]; rfl
        rw [e0] at lk1 ⊢
        refine ite2 (fun c => absurd (of_decide_eq_true c) (by rw [z0]; show ¬ ((n + 0 : Nat) : Int) < (n : Int) + 0; omega)) (fun _ => ?_)
        have lk1' : LK ps le la ((n : Nat) : Int) E "body" "" asks H H1 := by
          have e1 : E ++ dataE [] = E := List.append_nil E
          rw [e1] at lk1
          exact lk1
        refine ⟨_, rfl, by show 1 ≤ sizeLine; decide, fun q hq => ⟨frD fr, .tuple [.str "chunked"], frD_dp (by rw [hfr]; exact (Tk.of (Ex.new hq)) _ _ (tk1 _ _ htq)), one_dp upd_same, frD_sh fr, by decide +kernel, _, rfl, ?_⟩⟩
        rw [eq_chunked, decide_eq_false (by rw [hfr]; exact fun q => by cases q)]
        refine iteF ⟨Nat.zero_le _, fun t ht => ?_⟩
        refine ⟨_, rfl, rfl, _, rfl, iteF ?_⟩
        refine plain H1 n E _ (by rw [hfr]; exact fun q => by cases q) lk1' tk1 (by omega) (fun zz asks' he => ?_) (Nat.le_refl _) q hq t ht
        have eb : beginBody kd s fr = endMsg kd { s with now := "body", part := "" } [] := by rw [hfr]; exact if_pos z0
        rw [eb] at pos
        have ee : (endMsg kd { s with now := "body", part := "" } []).2 = [.fin []] := by
          unfold endMsg
          split <;> rfl
        rw [ee] at pos
        refine end_bnd (sx := { s with now := "body", part := "" }) (tfs := []) hkk hsw sl se sa slast smsg ?_ pos he
        rw [if_neg (by rw [hfr]; exact fun q => by cases q)]
      · have zpos : 0 < z := by omega
        have eb : beginBody kd s fr = ({ s with now := "body", part := "length", left := z }, []) := by rw [hfr]; exact if_neg z0
        rw [eb] at pos
        have pos' : Pos kd b S0 os n { s with now := "body", part := "length", left := z, count := (n : Int) } E := by
          have := pos
          rw [List.append_nil] at this
          exact this
        refine ite2 (fun c => ?_) (fun c => ?_)
        · have c' := of_decide_eq_true c
          have short : ((os.drop n).take z.toNat).length < z.toNat := by omega
          refine ⟨_, rfl, ps, _, rfl, dput hd1, ?_⟩
          rw [lput_inside]
          exact k2 _ _ _ _ _ _ (lk1.dict hd1 _ "body" "some" fo1) (pos'.bodyShort rfl (.inl rfl) rfl short)
        · have nshort : ¬ ((os.drop n).take z.toNat).length < z.toNat := fun q => c (decide_eq_true (by omega))
          obtain ⟨cc, posE⟩ := pos'.lenFull rfl rfl (z := z) rfl zpos nshort hEl
          refine ⟨_, rfl, by show 1 ≤ sizeLine; decide, fun q hq => ⟨frD fr, .tuple [.str "chunked"], frD_dp (by rw [hfr]; exact (Tk.of (Ex.new hq)) _ _ (tk1 _ _ htq)), one_dp upd_same, frD_sh fr, by decide +kernel, _, rfl, ?_⟩⟩
          rw [eq_chunked, decide_eq_false (by rw [hfr]; exact fun q => by cases q)]
          refine iteF ⟨Nat.zero_le _, fun t ht => ?_⟩
          refine ⟨_, rfl, rfl, _, rfl, iteF ?_⟩
          refine plain H1 _ _ _ (by rw [hfr]; exact fun q => by cases q) lk1 tk1 (by rw [List.length_append]; omega) (fun zz asks' he => ?_) (Nat.le_add_right _ _) q hq t ht
          refine end_bnd (sx := { s with now := "body", part := "length", left := 0, count := cc }) (tfs := []) hkk hsw sl se sa slast smsg ?_ posE he
          rw [if_neg (by rw [hfr]; exact fun q => by cases q)]
    | switch =>
      rw [hfr] at htq
      refine ⟨_, rfl, tq, [.str "switch"], 0, _, rfl, rfl, SqT.of htq, rfl, rfl, _, rfl, ?_⟩
      rw [dec_vs, decide_eq_false (show ¬ (("switch" : Str) = "length") by decide +kernel)]
      refine iteF ?_
      refine ⟨_, rfl, by show 1 ≤ sizeLine; decide, fun q1 hq1 => ?_⟩
      have e1 := Ex.new (o := .tup [.str "close"]) hq1
      refine ⟨frD fr, .tuple [.str "close"], frD_dp (by rw [hfr]; exact e1 _ _ htq), one_dp upd_same, frD_sh fr, by decide +kernel, _, rfl, ?_⟩
      have lk1 := lk0.ex e1
      obtain ⟨fo1, hd1⟩ := lk1.atp
      have hC1 := hC.mono e1
      have htq1 := e1 _ _ htq
      generalize upd H q1 (.tup [.str "close"]) = H1 at *
      rw [eq_close, decide_eq_false (by rw [hfr]; exact fun q => by cases q)]
      refine iteF ?_
      refine ⟨_, rfl, by show 1 ≤ sizeLine; decide, fun q hq => ⟨frD fr, .tuple [.str "chunked"], frD_dp (by rw [hfr]; exact (Tk.of (Ex.new hq)) _ _ htq1), one_dp upd_same, frD_sh fr, by decide +kernel, _, rfl, ?_⟩⟩
      rw [eq_chunked, decide_eq_false (by rw [hfr]; exact fun q => by cases q)]
      refine iteF ⟨Nat.zero_le _, fun t ht => ?_⟩
      refine ⟨_, rfl, rfl, _, rfl, iteF ?_⟩
      refine plain H1 n E _ (by rw [hfr]; exact fun q => by cases q) lk1 (Tk.of e1) (by omega) (fun zz asks' he => ?_) (Nat.le_refl _) q hq t ht
      have eb : beginBody kd s fr = ({ (endMsg kd { s with now := "body", part := "" } []).1 with now := "raw" }, (endMsg kd { s with now := "body", part := "" } []).2) := by rw [hfr]; rfl
      rw [eb] at pos
      have ee : (endMsg kd { s with now := "body", part := "" } []).2 = [.fin []] := by
        unfold endMsg
        split <;> rfl
      rw [ee] at pos
      refine end_bnd (sx := { s with now := "body", part := "" }) (tfs := []) hkk hsw sl se sa slast smsg ?_ pos he
      rw [if_pos hfr]
    | close =>
      rw [hfr] at htq
      refine ⟨_, rfl, tq, [.str "close"], 0, _, rfl, rfl, SqT.of htq, rfl, rfl, _, rfl, ?_⟩
      rw [dec_vs, decide_eq_false (show ¬ (("close" : Str) = "length") by decide +kernel)]
      refine iteF ?_
      refine ⟨_, rfl, by show 1 ≤ sizeLine; decide, fun q1 hq1 => ?_⟩
      have e1 := Ex.new (o := .tup [.str "close"]) hq1
      refine ⟨frD fr, .tuple [.str "close"], frD_dp (by rw [hfr]; exact e1 _ _ htq), one_dp upd_same, frD_sh fr, by decide +kernel, _, rfl, ?_⟩
      have lk1 := lk0.ex e1
      obtain ⟨fo1, hd1⟩ := lk1.atp
      have hC1 := hC.mono e1
      have htq1 := e1 _ _ htq
      generalize upd H q1 (.tup [.str "close"]) = H1 at *
      rw [eq_close, decide_eq_true hfr]
      refine iteT ?_
      refine ⟨_, rfl, ps, _, rfl, dput hd1, ?_⟩
      rw [lput_inside]
      have lk2 := lk1.dict hd1 n "body" "close" fo1
      have hC2 := hC.keep hL lk2.2
      refine ⟨_, rfl, _, rfl, _, rfl, d, _, rfl, Or.inl (SqL.of hC2.dat), ps, le, la, d, os, n, E, "body", "close", asks, _, rfl, lk2.1, hC2.dat, hC.d1, hC.d2, hn, by omega, Int.natCast_nonneg _, by omega, fun H3 lk3 => ?_⟩
      have et : (os.drop n).take (((os.map V.int).length : Nat) : Int).toNat = os.drop n := List.take_of_length_le (by rw [List.length_drop, List.length_map]; omega)
      rw [et] at lk3
      have eb : beginBody kd s fr = ({ s with now := "body", part := "rest", last := true }, []) := by rw [hfr]; rfl
      rw [eb] at pos
      have pos' : Pos kd b S0 os n { s with now := "body", part := "rest", last := true, count := (n : Int) } E := by
        have := pos
        rw [List.append_nil] at this
        exact this
      obtain ⟨sF, EF, r1, r2, r3⟩ := pos'.all (run_rest (os.drop n) _ rfl rfl) (join_data E (os.drop n))
      have dl := dataE_len (os.drop n)
      rw [List.length_drop] at dl
      refine k2 _ _ _ _ _ _ (lk2.tr lk3) ⟨⟨sF, EF, r1, r2, r3⟩, .inr (by decide +kernel), hEo.app (dataE_ok _), ?_⟩
      rw [List.length_append]
      omega
    | chunked =>
      rw [hfr] at htq
      refine ⟨_, rfl, tq, [.str "chunked"], 0, _, rfl, rfl, SqT.of htq, rfl, rfl, _, rfl, ?_⟩
      rw [dec_vs, decide_eq_false (show ¬ (("chunked" : Str) = "length") by decide +kernel)]
      refine iteF ?_
      refine ⟨_, rfl, by show 1 ≤ sizeLine; decide, fun q1 hq1 => ?_⟩
      have e1 := Ex.new (o := .tup [.str "close"]) hq1
      refine ⟨frD fr, .tuple [.str "close"], frD_dp (by rw [hfr]; exact e1 _ _ htq), one_dp upd_same, frD_sh fr, by decide +kernel, _, rfl, ?_⟩
      have lk1 := lk0.ex e1
      obtain ⟨fo1, hd1⟩ := lk1.atp
      have hC1 := hC.mono e1
      have htq1 := e1 _ _ htq
      generalize upd H q1 (.tup [.str "close"]) = H1 at *
      rw [eq_close, decide_eq_false (by rw [hfr]; exact fun q => by cases q)]
      refine iteF ?_
      refine ⟨_, rfl, by show 1 ≤ sizeLine; decide, fun q hq => ⟨frD fr, .tuple [.str "chunked"], frD_dp (by rw [hfr]; exact (Tk.of (Ex.new hq)) _ _ htq1), one_dp upd_same, frD_sh fr, by decide +kernel, _, rfl, ?_⟩⟩
      rw [eq_chunked, decide_eq_true hfr]
      refine iteT ?_
      have e2 := Ex.new (o := .tup [.str "chunked"]) hq
      have lk2 := lk1.ex e2
      have hC2 := hC1.mono e2
      have eb : beginBody kd s fr = ({ s with now := "body", part := "size" }, []) := by rw [hfr]; rfl
      rw [eb] at pos
      have pos' : Pos kd b S0 os n { s with now := "body", part := "size", count := (n : Int) } E := by
        have := pos
        rw [List.append_nil] at this
        exact this
      have bl0 : (0 : Int) ≤ b.line := by have := hC.ok.l1; omega
      refine ⟨_, rfl, _, rfl, _, rfl, ps, le, la, p, d, kd, b, S0, { s with now := "body", part := "size", count := (n : Int) }, os, n, E, asks, rfl, lk2.1, hC2, pos', rfl, rfl, sl, se, fun t fs3 n' E' s3 H3 lk3 hft okf sm sp fl l0 hnn => ?_, fun n' E' z ins H3 lk3 hf => ?_⟩
      · refine ⟨_, rfl, rfl, _, rfl, iteF ?_⟩
        have lk4 := lk2.tr lk3
        obtain ⟨m, k, rfl, posm, ql⟩ := fl
        have l0m := l0.with fs3 (m : Int)
        obtain ⟨kk1, kk2, _, _, pl1, _⟩ := posm.line bl0 l0m ql
        have rl : readLine kd b { ({ s3 with fields := fs3, count := (m : Int) } : RS) with count := ((m + k : Nat) : Int) - 1 } (lineS []) = .ok (endMsg kd { s3 with fields := fs3, count := ((m + k : Nat) : Int) - 1 } fs3) := by
          unfold readLine
          have a1 : ¬ ({ s3 with fields := fs3, count := ((m + k : Nat) : Int) - 1 } : RS).part = "size" := by
            show ¬ s3.part = "size"
            rw [sp]
            decide +kernel
          have a2 : ¬ ({ s3 with fields := fs3, count := ((m + k : Nat) : Int) - 1 } : RS).now = "start" := (body_now sm.1).2.2.2
          have a3 : ¬ lineS [] ≠ "" := fun z => z rfl
          rw [if_neg a1, if_neg a2, if_neg a3]
          exact if_pos sp
        have ee : (endMsg kd { s3 with fields := fs3, count := ((m + k : Nat) : Int) - 1 } fs3).2 = [.fin fs3] := by
          unfold endMsg
          split <;> rfl
        have ec : (endMsg kd { s3 with fields := fs3, count := ((m + k : Nat) : Int) - 1 } fs3).1.count = ((m + k : Nat) : Int) - 1 := by
          unfold endMsg
          split
          · rfl
          · split <;> rfl
        have posE := pl1 _ (E' ++ [.fin fs3]) rl ec (by rw [ee]) (by rw [List.length_append]; have := posm.el; show E'.length + 1 ≤ _; omega) (posm.ok.app (fun e he => by rw [List.mem_singleton.mp he]; trivial))
        have el := posm.el
        have le3 := posm.le
        refine hB4 H3 (m + k) E' _ t fs3 lk4 (hL.tk lk4.2) hft (by omega) fun H' z asks' l he => ?_
        refine k1 (m + k) _ z asks' H' l ?_ hnn
        · refine end_bnd (sx := { s3 with fields := fs3, count := ((m + k : Nat) : Int) - 1 }) (tfs := fs3) hkk hsw l0.li l0.en (sm.2.2.1.trans sa) (sm.2.2.2.2.trans slast) (fun h => sm.2.2.2.1.trans (smsg h)) ?_ posE he
          rw [if_neg (by rw [hfr]; exact fun q => by cases q)]
      · refine ⟨_, rfl, rfl, _, rfl, iteT ?_⟩
        exact k2 _ _ _ _ _ _ (lk2.tr lk3) hf
end
end K32


namespace K32
open PySem PySem.Spec PyProof.Rows L2
/-! ### the plain law: a head -/
theorem lineGo_one (m : Int) : ∀ (x acc : List Int) (octs : List Int) (k : Nat), lineGo m x acc true = .line octs k → 1 ≤ k
  | [], acc, octs, k, h => by cases h
  | o :: rest, acc, octs, k, h => by
    by_cases h10 : o = 10
    · rw [show lineGo m (o :: rest) acc true = .line acc 1 from if_pos h10] at h
      cases h
      exact Nat.le_refl _
    · rw [show lineGo m (o :: rest) acc true = .err "ending" 0 from if_neg h10] at h
      cases h
theorem lineGo_two (m : Int) : ∀ (x acc : List Int) (octs : List Int) (k : Nat), lineGo m x acc false = .line octs k → 2 ≤ k
  | [], acc, octs, k, h => by cases h
  | o :: rest, acc, octs, k, h => by
    have up : ∀ L : LRes, L.ups 1 = .line octs k → ∃ k', L = .line octs k' ∧ k = k' + 1 := fun L hL => by
      cases L with
      | more a r => cases hL
      | err z k' => cases hL
      | line a k' =>
        injection hL with h1 h2
        subst h1
        exact ⟨k', rfl, by omega⟩
    by_cases h10 : o = 10
    · rw [show lineGo m (o :: rest) acc false = .err "ending" 0 from if_pos h10] at h
      cases h
    · by_cases h13 : o = 13
      · rw [show lineGo m (o :: rest) acc false = (lineGo m rest acc true).ups 1 from (if_neg h10).trans (if_pos h13)] at h
        obtain ⟨k', hk, e⟩ := up _ h
        have := lineGo_one m rest acc octs k' hk
        omega
      · by_cases ho : octB o = false
        · rw [show lineGo m (o :: rest) acc false = .err "octet" 0 from (if_neg h10).trans ((if_neg h13).trans (if_pos ho))] at h
          cases h
        · by_cases hl : (acc.length : Int) = m
          · rw [show lineGo m (o :: rest) acc false = .err "long" 0 from (if_neg h10).trans ((if_neg h13).trans ((if_neg ho).trans (if_pos hl)))] at h
            cases h
          · rw [show lineGo m (o :: rest) acc false = (lineGo m rest (acc ++ [o]) false).ups 1 from (if_neg h10).trans ((if_neg h13).trans ((if_neg ho).trans (if_neg hl)))] at h
            obtain ⟨k', hk, e⟩ := up _ h
            have := lineGo_two m rest (acc ++ [o]) octs k' hk
            omega
theorem mSta_nil : mSta "" = .error "start" := if_pos (by decide +kernel)
theorem mStart_nil {kd : Str} (h : kd = RESPS) : mStart kd "" = .error "start" := by
  subst h
  have e : mStart RESPS "" = (match mSta "" with | .ok (a, c, v) => .ok (.sta a c v) | .error k => .error k) := if_neg (fun z => kinds_ne z)
  rw [e, mSta_nil]
theorem mStart_st {kd z : Str} {st : Stt} (hkk : kd = REQS ∨ kd = RESPS) (h : mStart kd z = .ok st) : StOk kd st := by
  unfold mStart at h
  rcases hkk with hk | hk
  · rw [if_pos hk] at h
    cases q : mReq z with
    | error k =>
      rw [q] at h
      cases h
    | ok x =>
      rw [q] at h
      cases h
      exact hk
  · rw [if_neg (fun z => kinds_ne (hk.symm.trans z))] at h
    cases q : mSta z with
    | error k =>
      rw [q] at h
      cases h
    | ok x =>
      rw [q] at h
      cases h
      exact hk
theorem plain_len {v : Int} {fs : List Fld} {b : Bk} (hb : BkOk b) (h : frameErr v fs b = "") : ∀ fr, plainFr fs = some fr → fr ≠ .info ∧ fr ≠ .switch ∧ ∀ z, fr = .len z → 0 ≤ z := by
  intro fr e
  unfold plainFr at e
  by_cases h1 : hasF fs TE_ = true
  · rw [if_pos h1] at e
    cases e
    exact ⟨(fun z => by cases z), (fun z => by cases z), fun _ z => by cases z⟩
  · rw [if_neg h1] at e
    by_cases h2 : hasF fs CL_ = true
    · rw [if_pos h2] at e
      cases e
      obtain ⟨z, r, q, _, n0, _⟩ := frame_ok h h2 hb
      refine ⟨(fun z => by cases z), (fun z => by cases z), fun y e => ?_⟩
      injection e with e
      rw [← e, q]
      exact n0
    · rw [if_neg h2] at e
      cases e
theorem headFr_ok {kd : Str} {b : Bk} {st : Stt} {fs : List Fld} {m : Ask} {fr : Fr} (hkk : kd = REQS ∨ kd = RESPS) (hb : BkOk b) (h : headFr kd b st fs m = .ok fr) : (fr = .info → kd = RESPS) ∧ (fr = .switch → kd = RESPS) ∧ ∀ z, fr = .len z → 0 ≤ z := by
  unfold headFr at h
  have l0 : ∀ z : Int, (Fr.len 0) = .len z → 0 ≤ z := fun z e => by
    injection e with e
    rw [← e]
    exact Int.le_refl _
  rcases hkk with hk | hk
  · rw [if_pos hk] at h
    unfold reqFr at h
    by_cases h1 : frameErr st.ver fs b = ""
    · rw [if_pos h1] at h
      injection h with h
      cases q : plainFr fs with
      | none =>
        rw [q] at h
        cases h
        exact ⟨(fun z => by cases z), (fun z => by cases z), l0⟩
      | some f =>
        rw [q] at h
        cases h
        obtain ⟨a, c, d⟩ := plain_len hb h1 _ q
        exact ⟨fun z => absurd z a, fun z => absurd z c, d⟩
    · rw [if_neg h1] at h
      cases h
  · refine ⟨fun _ => hk, fun _ => hk, ?_⟩
    rw [if_neg (fun z => kinds_ne (hk.symm.trans z))] at h
    unfold respFr at h
    by_cases h1 : frameErr st.ver fs b = ""
    · rw [if_pos h1] at h
      repeat' split at h
      all_goals first
        | (cases h; done)
        | (cases h; intro z e; cases e; done)
        | (cases h; exact l0)
        | skip
      injection h with h
      cases q : plainFr fs with
      | none =>
        rw [q] at h
        cases h
        intro z e
        cases e
      | some f =>
        rw [q] at h
        cases h
        exact (plain_len hb h1 _ q).2.2
    · rw [if_neg h1] at h
      cases h
/-- the reader at the end of a head -/
def headS (kd : Str) (b : Bk) (s : RS) (fs : List Fld) : RS := { s with last := !persB s.start.ver fs b, msg := if kd = REQS then ⟨s.start.meth, upB s.start.ver fs, !persB s.start.ver fs b⟩ else s.msg }
def headW (kd : Str) (fr : Fr) : Str := if kd = REQS then "request" else if fr = .info then "info" else "response"
theorem endHead_ok {kd : Str} {b : Bk} {s : RS} {fs : List Fld} {fr : Fr} (h : headFr kd b s.start fs (s.asks.headD ⟨"", false, false⟩) = .ok fr) : endHead kd b s fs = .ok ((beginBody kd (headS kd b s fs) fr).1, .head (headW kd fr) s.start fs :: (beginBody kd (headS kd b s fs) fr).2) := by
  unfold endHead headS headW
  rw [h]
  by_cases hk : kd = REQS
  · rw [if_pos hk, if_pos hk]
    show (if kd = REQS then _ else _) = _
    rw [if_pos hk]
  · rw [if_neg hk, if_neg hk]
    show (if kd = REQS then _ else _) = _
    rw [if_neg hk]
theorem begin_cnt (kd : Str) (s : RS) (fr : Fr) : (beginBody kd s fr).1.count = s.count := by
  cases fr <;> unfold beginBody <;> first | rfl | skip
  all_goals
    unfold endMsg
    repeat' split
    all_goals rfl
theorem begin_ev (kd : Str) (s : RS) (fr : Fr) : (beginBody kd s fr).2.length ≤ 1 ∧ EvsOk (beginBody kd s fr).2 := by
  have h0 : EvsOk [] := fun e he => by cases he
  have h1 : EvsOk [.fin []] := fun e he => by
    rw [List.mem_singleton.mp he]
    trivial
  have e1 : ∀ s : RS, (endMsg kd s []).2 = [.fin []] := fun s => by
    unfold endMsg
    split <;> rfl
  cases fr with
  | len n =>
    unfold beginBody
    by_cases q : n = 0
    · simp only [q, if_true]
      rw [e1]
      exact ⟨Nat.le_refl _, h1⟩
    · simp only [q, if_false]
      exact ⟨Nat.zero_le _, h0⟩
  | switch =>
    show (endMsg kd { s with now := "body", part := "" } []).2.length ≤ 1 ∧ EvsOk (endMsg kd { s with now := "body", part := "" } []).2
    rw [e1]
    exact ⟨Nat.le_refl _, h1⟩
  | info => exact ⟨Nat.zero_le _, h0⟩
  | chunked => exact ⟨Nat.zero_le _, h0⟩
  | close => exact ⟨Nat.zero_le _, h0⟩
theorem headW_ok (kd : Str) (fr : Fr) : headW kd fr ≠ "data" ∧ headW kd fr ≠ "raw" := by
  unfold headW
  repeat' split
  all_goals exact ⟨by decide +kernel, by decide +kernel⟩
end K32

namespace K32
open PySem PySem.Spec PyProof.Rows L2
section
variable {X : Cx}
/-- d[y] = v, as a target -/
def rSetD : TSet := fun o i v H Q => ∃ a H', o = .ref a ∧ DPut H a i v H' ∧ Q H'
theorem set_dict (hu : X.A.units + 1 < cLine) : PSet X rSetD := by
  intro pins s σ H o i v ov iv u Q I ro ri rv h
  obtain ⟨a, H', rfl, g, q⟩ := h
  obtain rfl : ov = Value.ref a := ro
  exact d_setItem hu I g ri rv fun s4 I4 => ⟨H', I4, q⟩
end
end K32

namespace K32
open PySem PySem.Spec PyProof.Rows L2
section
variable {P : Program} {w : World} {K : PySem.W.Frag} {mg : Str → Option Value} {base : Heap} {A : Adr}
/-! ### _law_message -/
theorem tif_c {c : Prop} [Decidable c] {a z : Str} {σ : St} {H : Hp} {Q : VK} (h : Q (.str (if c then a else z)) H) : (if decide c = true then tC (.str a) σ H Q else tC (.str z) σ H Q) := by
  by_cases hc : c
  · rw [if_pos hc] at h
    rw [if_pos (decide_eq_true hc)]
    exact h
  · rw [if_neg hc] at h
    rw [if_neg (fun q => hc (of_decide_eq_true q))]
    exact h
def sp__law_message : Sp := fun vs H Q _ => ∃ (ps le la p d : Addr) (kd : Str) (b : Bk) (S0 : RS) (os : List Int) (n : Nat) (E : List Evt) (asks : List Ask),
  vs = [.ref ps, .str kd, .ref p, .ref d] ∧ (kd = REQS ∨ kd = RESPS) ∧ LSt H ps le la n E "start" "" asks ∧ LCx A H ps le la p d b os ∧ Bnd kd b S0 os n E "start" asks ∧ (kd = RESPS → asks ≠ []) ∧ n < os.length ∧
  (∀ n' E' z asks' H', LK ps le la ((n' : Nat) : Int) E' z "" asks' H H' → Bnd kd b S0 os n' E' z asks' → n < n' → Q .non H') ∧
  (∀ n' E' z ins asks' H', LK ps le la n' E' z ins asks' H H' → FinP kd b S0 os E' z ins → Q .non H')
abbrev N__law_message : List Str := ["_law_s", "_law_kind", "_law_rules", "_law_data_here", "_law_line_here", "_law_start_here", "_law_fields_here", "_law_frame_here", "_law_word"]
theorem sc__law_message : FnScope N__law_message ["_law_s", "_law_kind", "_law_rules", "_law_data_here"] (defScope s__law_message) := ⟨rfl, rfl, rfl, by decide +kernel, rfl, by decide +kernel, by decide +kernel⟩
theorem h__law_message (T : Txt K w mg A) : Has CX0 P w K mg base "_law_message" 11 ["_law_s", "_law_kind", "_law_rules", "_law_data_here"] (sp__law_message (A := A)) := by
  refine has0 (k := 10) T.d__law_message sc__law_message (fun _ _ _ _ _ _ us hl => match us, hl with | [_, _, _, _], _ => rfl) (fun vs H Q E h => ?_) (fun f cdv A0 outer ss H vs Q XE hr h => ?_)
  · obtain ⟨ps, le, la, p, d, kd, b, S0, os, n, E, asks, rfl, _⟩ := h
    rfl
  · obtain ⟨ps, le, la, p, d, kd, b, S0, os, n, E, asks, rfl, hkk, hL, hC, ⟨s, pos0, sn, sp, sl, se, sa, _⟩, hask, hn, k1, k2⟩ := h
    have ol := hC.ol
    have bl0 : (0 : Int) ≤ b.line := by have := hC.ok.l1; omega
    have lmS : ∀ c : Int, L0 kd { s with count := c } := fun c => by
      refine ⟨⟨.inl sn, ?_, ?_, ?_⟩, sl, se⟩
      · rintro ⟨_, z1, z2⟩
        exact hask z1 (sa.symm.trans z2)
      · show s.part ≠ "chunk end"
        rw [sp]
        decide +kernel
      · rintro ⟨z, _⟩
        rw [show ({ s with count := c } : RS).now = s.now from rfl, sn] at z
        exact absurd z (by decide +kernel)
    refine ⟨_, ((pss_cons (ps_set (i := 4) sc__law_message.nd rfl (.inl rfl) pe_str)
      (pss_cons (ps_while PassesOwn.never (pt_cmpR op_eq (pv 4) pe_str (nomark _))
      (pss_cons (ps_set (i := 4) sc__law_message.nd rfl (.inl rfl) (pe_fn (h__law_next_line T) (hr.mono (by decide)) paN (pa_cons (pv 0) (pa_cons (pv 2) (pa_cons (pv 3) pa_nil)))))
      (pss_one (ps_if (PW.pt (pw_and (pt_cmpR op_eq (pv 4) pe_str (nomark _)) (pw_and1 (PW.pt (pw_or (pt_cmpR op_eq (pv 1) pe_str (nomark _)) (pw_or1 (pt_cmpR op_eq (pe_dget (hu_of hr) (pv 0) pe_str (fun _ _ => rfl)) (pe_callB call_len_seq (by rfl) T.b_len PySem.boot_len (pa_cons (pv 3) pa_nil)) (nomark _)))))))) (pss_cons (ps_if (pt_cmpR op_eq (pv 1) pe_str (nomark _)) (pss_one (ps_expr (pe_fn (h__law_fail T) (hr.mono (by decide)) paN (pa_cons (pv 0) (pa_cons pe_str (pa_cons (pe_op op_sub (pe_dget (hu_of hr) (pv 0) pe_str (fun _ _ => rfl)) pe_int) pa_nil)))))) pss_nil)
      (pss_one (ps_ret pe_non))) pss_nil))))
      (pss_cons (ps_if (pt_cmpR op_isN (pv 4) pe_non (nomark _)) (pss_one (ps_ret pe_non)) pss_nil)
      (pss_cons (ps_set (i := 5) sc__law_message.nd rfl (.inl rfl) (pe_fn (h__law_start T) (hr.mono (by decide)) paN (pa_cons (pv 1) (pa_cons (pv 4) pa_nil))))
      (pss_cons (ps_if (pt_val (pe_callB call_isi (by rfl) T.b_isinstance (by decide +kernel) (pa_cons (pv 5) (pa_cons (pe_bltn (v := .ty "str") rfl T.b_str (by decide +kernel) rfl) pa_nil)))) (pss_one (ps_ret (pe_fn (h__law_fail T) (hr.mono (by decide)) paN (pa_cons (pv 0) (pa_cons (pv 5) (pa_cons (pe_op op_sub (pe_dget (hu_of hr) (pv 0) pe_str (fun _ _ => rfl)) pe_int) pa_nil)))))) pss_nil)
      (pss_cons (ps_asg (pe_tup (pa_cons pe_str (pa_cons (pv 5) pa_nil))) (pg_tup (by rfl) (pgs_cons (pg_sub (pv 0) pe_str (set_dict (hu_of hr))) (pgs_cons (pg_sub (pv 0) pe_str (set_dict (hu_of hr))) pgs_nil))))
      (pss_cons (ps_set (i := 6) sc__law_message.nd rfl (.inl rfl) (pe_fn (h__law_fields T) (hr.mono (by decide)) paN (pa_cons (pv 0) (pa_cons (pv 2) (pa_cons (pv 3) pa_nil)))))
      (pss_cons (ps_if (pt_cmpR op_isN (pv 6) pe_non (nomark _)) (pss_one (ps_ret pe_non)) pss_nil)
      (pss_cons (ps_set (i := 7) sc__law_message.nd rfl (.inl rfl) (pe_fn (h__law_frame T) (hr.mono (by decide)) paN (pa_cons (pv 1) (pa_cons (pv 2) (pa_cons (pv 5) (pa_cons (pv 6) (pa_cons (pe_ifExp (pt_cmpR op_eq (pv 1) pe_str (nomark _)) (pe_ix ix_list (pe_dget (hu_of hr) (pv 0) pe_str (fun _ _ => rfl)) pe_int (fun _ _ => rfl)) pe_non) pa_nil)))))))
      (pss_cons (ps_if (pt_val (pe_callB call_isi (by rfl) T.b_isinstance (by decide +kernel) (pa_cons (pv 7) (pa_cons (pe_bltn (v := .ty "str") rfl T.b_str (by decide +kernel) rfl) pa_nil)))) (pss_one (ps_ret (pe_fn (h__law_fail T) (hr.mono (by decide)) paN (pa_cons (pv 0) (pa_cons (pv 7) (pa_cons (pe_op op_sub (pe_dget (hu_of hr) (pv 0) pe_str (fun _ _ => rfl)) pe_int) pa_nil)))))) pss_nil)
      (pss_cons (ps_set (i := 8) sc__law_message.nd rfl (.inl rfl) (pe_dget (hu_of hr) (pe_disp (pps_cons pe_str pe_str (pps_cons pe_str (pe_ifExp (pt_cmpR (op_eqD hr.units) (pv 7) (pe_tup (pa_cons pe_str pa_nil)) (nomark _)) pe_str pe_str) pps_nil)) rfl rfl (fun z => by cases z) (by decide)) (pv 1) (fun _ _ => rfl)))
      (pss_cons (ps_expr (pe_bm PySem.F.plainAttrs_list PySem.F.slot_list_append PySem.F.type_list_append mt_append (pe_dget (hu_of hr) (pv 0) pe_str (fun _ _ => rfl)) (pa_cons (pe_op op_catT (pe_op op_catT (pe_tup (pa_cons (pv 8) pa_nil)) (pv 5)) (pe_tup (pa_cons (pv 6) pa_nil))) pa_nil)))
      (pss_cons (ps_dput (hu_of hr) (pv 0) pe_str (pe_ifExp (pt_cmpR op_eq (pv 8) pe_str (nomark _)) pe_str pe_str) rfl)
      (pss_one (ps_if (pt_cmpR op_ne (pv 8) pe_str (nomark _)) (pss_one (ps_expr (pe_fn (h__law_body T) (hr.mono (by decide)) paN (pa_cons (pv 0) (pa_cons (pv 1) (pa_cons (pv 2) (pa_cons (pv 3) (pa_cons (pe_tup (pa_cons (pv 5) (pa_cons (pv 6) (pa_cons (pv 7) pa_nil)))) pa_nil)))))))) pss_nil)))))))))))))))), ?_⟩
    refine ⟨fun mm σ Hx => ∃ (v4 : V), σ = [some (.ref ps), some (.str kd), some (.ref p), some (.ref d), some v4, none, none, none, none] ∧
      ((∃ m : Nat, mm = os.length - m + 1 ∧ v4 = .str "" ∧ LK ps le la ((m : Nat) : Int) E "start" "" asks H Hx ∧ Pos kd b S0 os m { s with count := (m : Int) } E ∧ n ≤ m ∧ m < os.length) ∨
       (∃ (m k : Nat) (octs : List Int), mm = 0 ∧ v4 = .str (lineS octs) ∧ octs ≠ [] ∧ LK ps le la ((m + k : Nat) : Int) E "start" "" asks H Hx ∧ Pos kd b S0 os m { s with count := (m : Int) } E ∧ n ≤ m ∧ m < os.length ∧ lineGo b.line (os.drop m) [] false = .line octs k) ∨
       (∃ (n' : Int) (E' : List Evt) (z ins : Str), mm = 0 ∧ v4 = .non ∧ LK ps le la n' E' z ins asks H Hx ∧ FinP kd b S0 os E' z ins)), ?_, ?_⟩
    · exact ⟨os.length - n + 1, .str "", rfl, .inl ⟨n, rfl, rfl, LK.here hL, (by have e : ({ s with count := (n : Int) } : RS) = s := by { have := pos0.cnt; cases s; simp only at this; subst this; rfl }; rw [e]; exact pos0), Nat.le_refl _, hn⟩⟩
    · rintro mm σ Hx ⟨v4, rfl, hinv⟩
      rcases hinv with ⟨m, rfl, rfl, lk, pos, nm, lt⟩ | ⟨m, k, octs, rfl, rfl, ho, lk, pos, nm, lt, g1⟩ | ⟨n', E', z, ins, rfl, rfl, lk, fin⟩
      · refine ⟨_, rfl, rfl, _, rfl, iteT ?_⟩
        refine ⟨fun σ' H' => ∃ (mm : Nat) (v4 : V), mm < os.length - m + 1 ∧ σ' = [some (.ref ps), some (.str kd), some (.ref p), some (.ref d), some v4, none, none, none, none] ∧
      ((∃ m : Nat, mm = os.length - m + 1 ∧ v4 = .str "" ∧ LK ps le la ((m : Nat) : Int) E "start" "" asks H H' ∧ Pos kd b S0 os m { s with count := (m : Int) } E ∧ n ≤ m ∧ m < os.length) ∨
       (∃ (m k : Nat) (octs : List Int), mm = 0 ∧ v4 = .str (lineS octs) ∧ octs ≠ [] ∧ LK ps le la ((m + k : Nat) : Int) E "start" "" asks H H' ∧ Pos kd b S0 os m { s with count := (m : Int) } E ∧ n ≤ m ∧ m < os.length ∧ lineGo b.line (os.drop m) [] false = .line octs k) ∨
       (∃ (n' : Int) (E' : List Evt) (z ins : Str), mm = 0 ∧ v4 = .non ∧ LK ps le la n' E' z ins asks H H' ∧ FinP kd b S0 os E' z ins)), ?_, ?_⟩
        · rintro σ' H' ⟨mm, v4, lt2, e1, e2⟩
          exact ⟨mm, lt2, v4, e1, e2⟩
        · have hCx := hC.keep hL lk.2
          have l0 := lmS (m : Int)
          have eb := pos.el
          refine ⟨_, rfl, _, rfl, _, rfl, ps, le, la, p, d, b, os, m, E, "start", "", asks, rfl, lk.1, hCx, pos.le, by omega, fun octs kk H1 g1 l1 => ?_, fun a r H1 g1 l1 => ?_, fun z kk H1 g1 l1 => ?_⟩
          · have lk1 := lk.tr l1
            obtain ⟨k1', hk2, oc, ocl, pl1, pl2⟩ := pos.line bl0 l0 g1
            have lk3 := lineGo_two _ _ _ _ _ g1
            have hC1 := hC.keep hL lk1.2
            obtain ⟨fo1, hd1⟩ := lk1.atp
            refine ⟨_, rfl, rfl, _, rfl, ?_⟩
            rw [dec_vs]
            refine ite2 (fun c1 => ?_) (fun c1 => ?_)
            · have c1' := of_decide_eq_true c1
              have ho := lineS_nil.mp c1'
              have nsz : ¬ s.part = "size" := by rw [sp]; decide +kernel
              have rl : readLine kd b { s with count := ((m + kk : Nat) : Int) - 1 } (lineS octs) = if lineS octs = "" ∧ kd = REQS then .ok ({ s with count := ((m + kk : Nat) : Int) - 1 }, []) else (match mStart kd (lineS octs) with
                  | .error k => .error ({ s with count := ((m + kk : Nat) : Int) - 1 }, k)
                  | .ok st => .ok ({ s with count := ((m + kk : Nat) : Int) - 1, start := st, fields := [], now := "head" }, [])) := (if_neg nsz).trans (if_pos sn)
              refine ⟨_, rfl, rfl, _, rfl, ?_⟩
              rw [dec_vs]
              refine ite2 (fun c2 => ?_) (fun c2 => ?_)
              · have hk : kd = RESPS := of_decide_eq_true c2
                refine ⟨_, rfl, rfl, _, rfl, ?_⟩
                rw [dec_vs]
                refine ite2 (fun _ => ?_) (fun z => absurd c2 z)
                refine ⟨_, rfl, _, rfl, ps, _, rfl, dget hd1 lget_at, _, _, rfl, rfl, ps, le, la, _, E, "start", "", asks, "start", _, rfl, lk1.1, by omega, fun H3 g3 g4 => ?_⟩
                rw [if_neg (fun z => kinds_ne (hk.symm.trans z.2)), c1', mStart_nil hk] at rl
                exact k2 _ _ _ _ _ _ (lk1.tr ⟨g3, g4⟩) (pl2 _ _ "" (by rw [c1']; exact rl) rfl)
              · have hk : kd = REQS := hkk.resolve_right fun z => c2 (decide_eq_true z)
                rw [if_pos ⟨c1', hk⟩] at rl
                have posN := pl1 _ E rl rfl (by rw [List.append_nil]) (by omega) pos.ok
                refine ⟨_, rfl, ps, _, rfl, dget hd1 lget_at, _, rfl, d, _, rfl, Or.inl (SqL.of hC1.dat), rfl, _, rfl, ?_⟩
                rw [dec_vi, List.length_map]
                refine ite2 (fun c3 => ?_) (fun c3 => ?_)
                · refine ⟨_, rfl, rfl, _, rfl, ?_⟩
                  rw [dec_vs]
                  refine ite2 (fun z => absurd z c2) (fun _ => ?_)
                  exact k1 (m + kk) E "start" asks _ lk1 ⟨_, posN, sn, sp, sl, se, sa, .inl rfl⟩ (by omega)
                · have c3' : ¬ ((m + kk : Nat) : Int) = (os.length : Int) := fun z => c3 (decide_eq_true z)
                  exact ⟨os.length - (m + kk) + 1, .str (lineS octs), by omega, rfl, .inl ⟨m + kk, rfl, by rw [c1'], lk1, posN, by omega, by omega⟩⟩
            · exact ⟨0, .str (lineS octs), by omega, rfl, .inr (.inl ⟨m, kk, octs, rfl, rfl, fun z => c1 (decide_eq_true (lineS_nil.mpr z)), lk1, pos, nm, lt, g1⟩)⟩
          · refine ⟨_, rfl, rfl, _, rfl, iteF ?_⟩
            have fin := pos.more l0 g1 (ins := "some") (by decide +kernel)
            rw [show ({ s with count := (m : Int) } : RS).now = s.now from rfl, sn] at fin
            exact ⟨0, .non, by omega, rfl, .inr (.inr ⟨_, _, _, _, rfl, rfl, lk.tr l1, fin⟩)⟩
          · refine ⟨_, rfl, rfl, _, rfl, iteF ?_⟩
            exact ⟨0, .non, by omega, rfl, .inr (.inr ⟨_, _, _, _, rfl, rfl, lk.tr l1, pos.lineErr l0 g1 ""⟩)⟩
      · have z1 : lineS octs ≠ "" := fun z => ho (lineS_nil.mp z)
        obtain ⟨k1', hk2, oc, ocl, pl1, pl2⟩ := pos.line bl0 (lmS _) g1
        have lk3 := lineGo_two _ _ _ _ _ g1
        have eb := pos.el
        refine ⟨_, rfl, rfl, _, rfl, ?_⟩
        rw [dec_vs]
        refine ite2 (fun z => absurd (of_decide_eq_true z) z1) (fun _ => ?_)
        refine ⟨_, rfl, rfl, _, rfl, iteF ?_⟩
        have nsz : ¬ s.part = "size" := by rw [sp]; decide +kernel
        have rl : readLine kd b { s with count := ((m + k : Nat) : Int) - 1 } (lineS octs) = (match mStart kd (lineS octs) with
            | .error kz => .error ({ s with count := ((m + k : Nat) : Int) - 1 }, kz)
            | .ok st => .ok ({ s with count := ((m + k : Nat) : Int) - 1, start := st, fields := [], now := "head" }, [])) := (if_neg nsz).trans ((if_pos sn).trans (if_neg fun z => z1 z.1))
        have lsz : (lineS octs).length ≤ 200 := by
          rw [lineS_len]
          have := hC.ok.l2
          omega
        refine ⟨_, rfl, _, rfl, kd, lineS octs, rfl, lineS_ok oc, by omega, fun st t H2 hm ht e2 hx => ?_, fun kz H2 hm e2 => ?_⟩
        · have lk1 := lk.ex e2
          obtain ⟨fo1, hd1⟩ := lk1.atp
          have hst := mStart_st hkk hm
          rw [hm] at rl
          have posH := pl1 _ E rl rfl (by rw [List.append_nil]) (by omega) pos.ok
          refine ⟨_, rfl, _, _, _, _, false, rfl, .ty _, .base (.tup hx), kit_ty (by decide +kernel), false, rfl, iteF ?_⟩
          refine ⟨_, rfl, by show 2 ≤ sizeLine; decide, fun tq htq => ⟨tq, _, rfl, SqT.of upd_same, rfl, ?_⟩⟩
          have lk2 := lk1.ex (Ex.new (o := .tup [.str "head", .ref t]) htq)
          have hx2 : (upd H2 tq (.tup [.str "head", .ref t])) t = some (.tup st.vs) := Ex.new (o := .tup [.str "head", .ref t]) htq _ _ hx
          generalize upd H2 tq (.tup [.str "head", .ref t]) = H3 at *
          obtain ⟨fo2, hd2⟩ := lk2.atp
          refine ⟨_, _, rfl, _, rfl, ps, _, rfl, dput hd2, ?_⟩
          rw [lput_state]
          have lk3' := lk2.dict hd2 ((m + k : Nat) : Int) "head" "" fo2
          have hx3 : (upd H3 ps (.dK (lsk ((m + k : Nat) : Int) le "head" "" la fo2))) t = some (.tup st.vs) := Tk.upd hd2 (fun _ z => by cases z) _ _ hx2
          have hd3 : (upd H3 ps (.dK (lsk ((m + k : Nat) : Int) le "head" "" la fo2))) ps = some (.dK (lsk ((m + k : Nat) : Int) le "head" "" la fo2)) := upd_same
          generalize upd H3 ps (.dK (lsk ((m + k : Nat) : Int) le "head" "" la fo2)) = H4 at *
          refine ⟨_, _, rfl, _, rfl, ps, _, rfl, dput hd3, rfl, ?_⟩
          rw [lput_first]
          have lk4 := lk3'.dict hd3 ((m + k : Nat) : Int) "head" "" (some (.ref t))
          have hx4 : (upd H4 ps (.dK (lsk ((m + k : Nat) : Int) le "head" "" la (some (.ref t))))) t = some (.tup st.vs) := Tk.upd hd3 (fun _ z => by cases z) _ _ hx3
          generalize upd H4 ps (.dK (lsk ((m + k : Nat) : Int) le "head" "" la (some (.ref t)))) = H5 at *
          have l0H : L0 kd { s with count := ((m + k : Nat) : Int), start := st, fields := [], now := "head" } := by
            refine ⟨⟨.inr (.inl rfl), ?_, ?_, ?_⟩, sl, se⟩
            · rintro ⟨z, _⟩
              exact absurd (show ("head" : Str) = "start" from z) (by decide +kernel)
            · show s.part ≠ "chunk end"
              rw [sp]
              decide +kernel
            · rintro ⟨z, _⟩
              exact absurd (show ("head" : Str) = "body" from z) (by decide +kernel)
          refine ⟨_, rfl, _, rfl, _, rfl, ps, le, la, p, d, kd, b, S0, { s with count := ((m + k : Nat) : Int), start := st, fields := [], now := "head" }, os, m + k, E, asks, rfl, lk4.1, hC.keep hL lk4.2, posH, l0H, rfl, nsz, (by show ¬ ("head" : Str) = "start"; decide +kernel), fun tf fs n' H6 l6 hft okf lfs hfe nn => ?_, fun n' E' z ins H6 l6 fin => ?_⟩
          · have lk6 := lk4.tr l6
            obtain ⟨m2, kk2, rfl, pos2, g2⟩ := hfe
            have g22 := lineGo_two _ _ _ _ _ g2
            obtain ⟨_, hk6, _, _, pl3, pl4⟩ := pos2.line bl0 (l0H.with fs (m2 : Int)) g2
            have hx6 : H6 t = some (.tup st.vs) := lk4.1.tk l6.2 _ _ hx4
            have hC6 := hC.keep hL lk6.2
            obtain ⟨fo6, hd6⟩ := lk6.atp
            have eb2 := pos2.el
            refine ⟨_, rfl, rfl, _, rfl, iteF ?_⟩
            obtain ⟨x, hxa, hif⟩ : ∃ x : V, (kd = RESPS → AskAt H6 x (asks.headD ⟨"", false, false⟩)) ∧ ∀ Q' : VK, Q' x H6 → tIf (tTest (tOp rEq (tVar 1) (tC (.str "responses")))) (tOp (rIxL K) (tDGet (tVar 0) (tC (.str "asks"))) (tC (.int 0))) (tC .non)
                [some (.ref ps), some (.str kd), some (.ref p), some (.ref d), some (.str (lineS octs)), some (.ref t), some (.ref tf), none, none] H6 Q' := by
              by_cases hk : kd = RESPS
              · obtain ⟨ys, hy, py⟩ := lk6.1.ak
                cases qa : asks with
                | nil => exact absurd qa (hask hk)
                | cons a0 ar =>
                  rw [qa] at py
                  cases py with
                  | @cons y0 _ yr _ r0 rr =>
                    refine ⟨y0, fun _ => r0, fun Q' hq => ?_⟩
                    refine ⟨_, rfl, rfl, _, rfl, ?_⟩
                    rw [dec_vs, decide_eq_true hk]
                    exact ⟨_, rfl, ps, _, rfl, dget hd6 lget_asks, la, _, 0, _, rfl, rfl, SqL.of hy, (by simp [atI, ixN]), hq⟩
              · refine ⟨.non, fun z => absurd z hk, fun Q' hq => ?_⟩
                refine ⟨_, rfl, rfl, _, rfl, ?_⟩
                rw [dec_vs, decide_eq_false hk]
                exact hq
            have sh : ∀ c : Int, headFr kd b ({ s with count := c, start := st, fields := fs, now := "head" } : RS).start fs (({ s with count := c, start := st, fields := fs, now := "head" } : RS).asks.headD ⟨"", false, false⟩) = headFr kd b st fs (asks.headD ⟨"", false, false⟩) := fun c => by
              show headFr kd b st fs (s.asks.headD ⟨"", false, false⟩) = _
              rw [sa]
            have rl2 : readLine kd b { s with count := ((m2 + kk2 : Nat) : Int) - 1, start := st, fields := fs, now := "head" } (lineS []) = endHead kd b { s with count := ((m2 + kk2 : Nat) : Int) - 1, start := st, fields := fs, now := "head" } fs := by
              have z1 : ¬ ("head" : Str) = "start" := by decide +kernel
              have z2 : ¬ (lineS [] ≠ "") := fun z => z rfl
              have z3 : ¬ s.part = "trailers" := by rw [sp]; decide +kernel
              exact (if_neg nsz).trans ((if_neg z1).trans ((if_neg z2).trans (if_neg z3)))
            refine ⟨_, rfl, _, rfl, _, rfl, _, rfl, hif _ ?_⟩
            refine ⟨kd, p, t, tf, b, st, fs, x, _, rfl, hC6.bk, hC.ok, hx6, hst, hft, okf, hxa, fun fr tq2 H7 hfe hq7 e7 hx7 => ?_, fun kz H7 hfe e7 => ?_⟩
            · have lk7 := lk6.ex e7
              obtain ⟨fo7, hd7⟩ := lk7.atp
              obtain ⟨f1, f2, f3⟩ := headFr_ok hkk hC.ok hfe
              refine ⟨_, rfl, _, _, _, _, false, rfl, .ty _, .base (.tup hx7), kit_ty (by decide +kernel), false, rfl, iteF ?_⟩
              refine fun pd hpd => ?_
              have lk8 := lk7.ex (Ex.new (o := .dK []) hpd)
              have hx8 : (upd H7 pd (.dK [])) tq2 = some (.tup fr.v) := Ex.new (o := .dK []) hpd _ _ hx7
              have hpd8 : (upd H7 pd (.dK [])) pd = some (.dK []) := upd_same
              have hf8 : FT (upd H7 pd (.dK [])) tf fs := (hft.mono (Tk.of e7)).mono (Tk.of (Ex.new (o := .dK []) hpd))
              have ht8 : (upd H7 pd (.dK [])) t = some (.tup st.vs) := Ex.new (o := .dK []) hpd _ _ (e7 _ _ hx6)
              have np : pd ≠ ps ∧ pd ≠ le ∧ pd ≠ la := by
                obtain ⟨⟨fo, g1⟩, ⟨xs, g2, _⟩, ⟨ys, g3, _⟩, _⟩ := id lk7.1
                exact ⟨(ne_of_none g1 hpd).symm, (ne_of_none g2 hpd).symm, (ne_of_none g3 hpd).symm⟩
              generalize upd H7 pd (.dK []) = H8 at *
              refine ⟨_, rfl, by show 1 ≤ sizeLine; decide, fun qi hqi => ?_⟩
              have e9 := Ex.new (o := .tup [.str "info"]) hqi
              refine ⟨frD fr, .tuple [.str "info"], frD_dp (e9 _ _ hx8), one_dp upd_same, frD_sh fr, by decide +kernel, _, rfl, ?_⟩
              rw [eq_info]
              refine tif_c ?_
              have lk9 := lk8.ex e9
              have hpd9 := e9 _ _ hpd8
              have hx9 := e9 _ _ hx8
              have ht9 := e9 _ _ ht8
              have hf9 := hf8.mono (Tk.of e9)
              generalize upd H8 qi (.tup [.str "info"]) = H9 at *
              have edm : valV (mergeK [] [(.inr "requests", V.str "request"), (.inr "responses", V.str (if fr = .info then "info" else "response"))]) (.inr kd) = some (.str (headW kd fr)) := by
                unfold headW
                rcases hkk with hk | hk
                · rw [if_pos hk, hk]
                  rfl
                · rw [if_neg (fun z => kinds_ne (hk.symm.trans z)), hk]
                  rfl
              refine ⟨hpd9, [(.inr "requests", .str "request"), (.inr "responses", .str (if fr = .info then "info" else "response"))], rfl, by show 2 ≤ 15; decide, _, rfl, pd, _, rfl, dget upd_same edm, ?_⟩
              have lkA : LK ps le la ((m2 + kk2 : Nat) : Int) E "head" "" asks H (upd H9 pd (.dK (mergeK [] [(.inr "requests", V.str "request"), (.inr "responses", V.str (if fr = .info then "info" else "response"))]))) := by
                have tk : Tk H9 (upd H9 pd (.dK (mergeK [] [(.inr "requests", V.str "request"), (.inr "responses", V.str (if fr = .info then "info" else "response"))]))) := Tk.upd hpd9 (fun _ z => by cases z)
                refine ⟨?_, fun a o ha hn => ?_⟩
                · obtain ⟨⟨fo3, g1⟩, ⟨xs, g2, g2p⟩, ⟨ys, g3, g3p⟩, g4⟩ := lk9.1
                  exact ⟨⟨fo3, (upd_ne np.1.symm).trans g1⟩, ⟨xs, (upd_ne np.2.1.symm).trans g2, evs_mono tk g2p⟩, ⟨ys, (upd_ne np.2.2.symm).trans g3, L2.Paired.mapP g3p fun _ _ q => q.mono tk⟩, g4⟩
                · have aq : a ≠ pd := ne_of_none (lk7.2 a o ha hn) hpd
                  exact (upd_ne aq).trans (lk9.2 a o ha hn)
              have tkA : Tk H9 (upd H9 pd (.dK (mergeK [] [(.inr "requests", V.str "request"), (.inr "responses", V.str (if fr = .info then "info" else "response"))]))) := Tk.upd hpd9 (fun _ z => by cases z)
              have hxA := tkA _ _ hx9
              have htA := tkA _ _ ht9
              have hfA := hf9.mono tkA
              generalize upd H9 pd (.dK (mergeK [] [(.inr "requests", V.str "request"), (.inr "responses", V.str (if fr = .info then "info" else "response"))])) = HA at *
              obtain ⟨foA, hdA⟩ := lkA.atp
              obtain ⟨xsA, hxsA, pxA⟩ := lkA.1.ev
              have lxA := pxA.length
              obtain ⟨v0, v1, hvs⟩ := stt_at hst
              refine ⟨_, rfl, ps, .ref le, rfl, dget hdA lget_events, Or.inl ⟨rfl, _, SqL.of hxsA⟩, _, rfl, by show 1 ≤ sizeLine; decide, fun t1 ht1 => ?_⟩
              have eB := Ex.new (o := .tup [.str (headW kd fr)]) ht1
              refine ⟨_, rfl, t1, t, [.str (headW kd fr)], st.vs, rfl, rfl, SqT.of upd_same, SqT.of (eB _ _ htA), (fun z => by cases z), by rw [hvs]; show 1 + 3 ≤ sizeLine; decide, (fun z => by rw [hvs] at z; cases z), fun _ t2 ht2 => ?_⟩
              have eC := eB.tr (Ex.new (o := .tup ([.str (headW kd fr)] ++ st.vs)) ht2)
              refine ⟨_, rfl, by show 1 ≤ sizeLine; decide, fun t3 ht3 => ?_⟩
              have eD := eC.tr (Ex.new (o := .tup [.ref tf]) ht3)
              have t23 : t2 ≠ t3 := ne_of_none upd_same ht3
              refine ⟨t2, t3, _, _, rfl, rfl, SqT.of ((upd_ne t23).trans upd_same), SqT.of upd_same, (fun z => by cases z), by rw [hvs]; show 4 + 1 ≤ sizeLine; decide, (fun z => by cases z), fun _ t4 ht4 => ?_⟩
              have eE := eD.tr (Ex.new (o := .tup (([.str (headW kd fr)] ++ st.vs) ++ [.ref tf])) ht4)
              have g4 := Ex.new (o := .tup (([.str (headW kd fr)] ++ st.vs) ++ [.ref tf])) ht4
              refine ⟨le, xsA, .ref t4, rfl, rfl, eE _ _ hxsA, Nat.lt_of_le_of_lt (by omega : xsA.length ≤ 1000) (by decide), ?_⟩
              have lkF : LK ps le la ((m2 + kk2 : Nat) : Int) (E ++ [.head (headW kd fr) st fs]) "head" "" asks H _ := ⟨((lkA.ex eE).1).push (x := .ref t4) (e := .head (headW kd fr) st fs) (eE _ _ hxsA) ⟨t4, _, rfl, upd_same, tf, rfl, hfA.mono (Tk.of eE)⟩ (evs_mono (Tk.of eE) pxA), (lkA.ex eE).2.tr (Kept.upd (by simp))⟩
              have tkF := (Tk.of eE).tr (Tk.upd (eE _ _ hxsA) (o := .lst (xsA ++ [.ref t4])) (fun _ z => by cases z))
              have hxF := tkF _ _ hxA
              have htF := tkF _ _ htA
              have hfF := hfA.mono tkF
              generalize upd (upd (upd (upd (upd HA t1 (.tup [.str (headW kd fr)])) t2 (.tup ([.str (headW kd fr)] ++ st.vs))) t3 (.tup [.ref tf])) t4 (.tup ([.str (headW kd fr)] ++ st.vs ++ [.ref tf]))) le (.lst (xsA ++ [.ref t4])) = HF at *
              obtain ⟨foF, hdF⟩ := lkF.atp
              have hwi : headW kd fr = "info" ↔ fr = .info := by
                unfold headW
                by_cases hk : kd = REQS
                · rw [if_pos hk]
                  exact ⟨fun z => absurd z (by decide +kernel), fun z => absurd ((f1 z).symm.trans hk) (fun q => kinds_ne q)⟩
                · rw [if_neg hk]
                  by_cases hi : fr = .info
                  · rw [if_pos hi]
                    exact ⟨fun _ => hi, fun _ => rfl⟩
                  · rw [if_neg hi]
                    exact ⟨fun z => absurd z (by decide +kernel), fun z => absurd z hi⟩
              refine ⟨_, rfl, rfl, _, rfl, ?_⟩
              rw [dec_vs]
              refine tif_c ?_
              refine ⟨_, rfl, ps, _, rfl, dput hdF, ?_⟩
              rw [lput_state]
              have lkG := lkF.dict hdF ((m2 + kk2 : Nat) : Int) (if headW kd fr = "info" then "start" else "body") "" foF
              have tkG : Tk HF (upd HF ps (.dK (lsk ((m2 + kk2 : Nat) : Int) le (if headW kd fr = "info" then "start" else "body") "" la foF))) := Tk.upd hdF (fun _ z => by cases z)
              have hxG := tkG _ _ hxF
              have htG := tkG _ _ htF
              have hfG := hfF.mono tkG
              generalize upd HF ps (.dK (lsk ((m2 + kk2 : Nat) : Int) le (if headW kd fr = "info" then "start" else "body") "" la foF)) = HG at *
              refine ⟨_, rfl, rfl, _, rfl, ?_⟩
              rw [dec_vs]
              have rl3 := endHead_ok (kd := kd) (b := b) (s := { s with count := ((m2 + kk2 : Nat) : Int) - 1, start := st, fields := fs, now := "head" }) (fs := fs) (fr := fr) (by rw [sh]; exact hfe)
              obtain ⟨be1, be2⟩ := begin_ev kd (headS kd b { s with count := ((m2 + kk2 : Nat) : Int) - 1, start := st, fields := fs, now := "head" } fs) fr
              have eok : EvsOk (E ++ [Evt.head (headW kd fr) st fs]) := pos.ok.app fun e he => by
                rw [List.mem_singleton.mp he]
                exact headW_ok kd fr
              have el1 : (E ++ [Evt.head (headW kd fr) st fs]).length = E.length + 1 := List.length_append
              have posB := pl3 _ ((E ++ [.head (headW kd fr) st fs]) ++ (beginBody kd (headS kd b { s with count := ((m2 + kk2 : Nat) : Int) - 1, start := st, fields := fs, now := "head" } fs) fr).2) (rl2.trans rl3) (begin_cnt kd _ fr) (by rw [List.append_assoc]; rfl) (by rw [List.length_append, el1]; omega) (eok.app be2)
              refine ite2 (fun c9 => ?_) (fun c9 => ?_)
              · have ni : ¬ headW kd fr = "info" := fun z => by
                  rw [decide_eq_true z] at c9
                  cases c9
                have nf : fr ≠ .info := fun z => ni (hwi.mpr z)
                rw [if_neg ni] at lkG
                refine ⟨_, rfl, _, rfl, _, rfl, _, rfl, _, rfl, _, rfl, _, rfl, by show 3 ≤ sizeLine; decide, fun th hth => ?_⟩
                have eH := Ex.new (o := .tup [.ref t, .ref tf, .ref tq2]) hth
                have lkH := lkG.ex eH
                refine ⟨ps, le, la, p, d, th, t, tf, tq2, kd, b, S0, headS kd b { s with count := ((m2 + kk2 : Nat) : Int) - 1, start := st, fields := fs, now := "head" } fs, os, m2 + kk2, E ++ [.head (headW kd fr) st fs], asks, st, fs, fr, rfl, upd_same, eH _ _ htG, hfG.mono (Tk.of eH), eH _ _ hxG, hkk, hst, okf, lkH.1, hC.keep hL lkH.2, posB.le, (by rw [el1]; omega), eok, nf, f3, f2, hask, sl, se, sa, rfl, (fun hk => if_pos hk), posB, ?_, ?_⟩
                · intro n' E' z asks' H' l9 bd nn9
                  exact k1 n' E' z asks' H' (lkH.tr l9) bd (by omega)
                · intro n' E' z ins asks' H' l9 fin
                  exact k2 n' E' z ins asks' H' (lkH.tr l9) fin
              · have yi : headW kd fr = "info" := by
                  by_cases z : headW kd fr = "info"
                  · exact z
                  · exact absurd (by rw [decide_eq_false z]; rfl) c9
                have yf := hwi.mp yi
                rw [if_pos yi] at lkG
                refine k1 (m2 + kk2) _ "start" asks _ lkG ?_ (by omega)
                subst yf
                have posI : Pos kd b S0 os (m2 + kk2) { (headS kd b { s with count := ((m2 + kk2 : Nat) : Int) - 1, start := st, fields := fs, now := "head" } fs) with now := "start", part := "", count := ((m2 + kk2 : Nat) : Int) } (E ++ [.head (headW kd .info) st fs]) := by
                  have z := posB
                  rw [show (beginBody kd (headS kd b { s with count := ((m2 + kk2 : Nat) : Int) - 1, start := st, fields := fs, now := "head" } fs) .info).2 = [] from rfl, List.append_nil] at z
                  exact z
                exact ⟨_, posI, rfl, rfl, sl, se, sa, .inl rfl⟩
            · have lk7 := lk6.ex e7
              obtain ⟨fo7, hd7⟩ := lk7.atp
              have rl3 : endHead kd b { s with count := ((m2 + kk2 : Nat) : Int) - 1, start := st, fields := fs, now := "head" } fs = .error ({ s with count := ((m2 + kk2 : Nat) : Int) - 1, start := st, fields := fs, now := "head", last := !persB st.ver fs b }, kz) := by
                unfold endHead
                rw [sh, hfe]
              refine ⟨_, rfl, _, _, _, _, true, rfl, .ty _, .base (.str _), kit_ty (by decide +kernel), true, rfl, iteT ?_⟩
              refine ⟨_, rfl, _, rfl, _, rfl, ps, _, rfl, dget hd7 lget_at, _, _, rfl, rfl, ps, le, la, _, E, "head", "", asks, kz, _, rfl, lk7.1, by omega, fun H8 g3 g4 => ?_⟩
              exact k2 _ _ _ _ _ _ (lk7.tr ⟨g3, g4⟩) (pl4 _ _ "" (rl2.trans rl3) rfl)
          · refine ⟨_, rfl, rfl, _, rfl, iteT ?_⟩
            exact k2 _ _ _ _ _ _ (lk4.tr l6) fin
        · have lk1 := lk.ex e2
          obtain ⟨fo1, hd1⟩ := lk1.atp
          rw [hm] at rl
          refine ⟨_, rfl, _, _, _, _, true, rfl, .ty _, .base (.str _), kit_ty (by decide +kernel), true, rfl, iteT ?_⟩
          refine ⟨_, rfl, _, rfl, _, rfl, ps, _, rfl, dget hd1 lget_at, _, _, rfl, rfl, ps, le, la, _, E, "start", "", asks, kz, _, rfl, lk1.1, by omega, fun H3 g3 g4 => ?_⟩
          exact k2 _ _ _ _ _ _ (lk1.tr ⟨g3, g4⟩) (pl2 _ _ "" rl rfl)
      · refine ⟨_, rfl, rfl, _, rfl, iteF ?_⟩
        refine ⟨_, rfl, rfl, _, rfl, iteT ?_⟩
        exact k2 _ _ _ _ _ _ lk fin
end
end K32


namespace K32
open PySem PySem.Spec PyProof.Rows L2
section
variable {kd : Str} {b : Bk} {S0 s : RS} {os : List Int} {n : Nat} {E : List Evt}
/-! ### the plain law: between messages -/
theorem Pos.rawAll (h : Pos kd b S0 os n s E) (h1 : s.now = "raw") (hn : n < os.length) : Pos kd b S0 os os.length { s with count := (os.length : Int) } (E ++ [.run "raw" (os.drop n)]) := by
  have ne : os.drop n ≠ [] := fun z => by
    have := congrArg List.length z
    rw [List.length_drop, List.length_nil] at this
    omega
  have e : n + (os.length - n) = os.length := by omega
  have et : (os.drop n).take (os.length - n) = os.drop n := List.take_of_length_le (by rw [List.length_drop]; exact Nat.le_refl _)
  have hr := run_raw (kd := kd) (b := b) (os.drop n) s h1
  have ec : s.count + ((os.drop n).length : Int) = ((os.length : Nat) : Int) := by
    rw [h.cnt, List.length_drop]
    omega
  rw [ec] at hr
  have p := h.adv (k := os.length - n) (E2 := E ++ [.run "raw" (os.drop n)]) (by omega) (by rw [et]; exact hr) (by rw [e]) (join_raw E _ ne) (by rw [List.length_append]; have := h.el; show E.length + 1 ≤ _; omega) (h.ok.app fun e he => by
    rw [List.mem_singleton.mp he]
    exact ⟨.inr rfl, ne⟩)
  rw [e] at p
  exact p
theorem Pos.stop (h : Pos kd b S0 os n s E) (hn : n < os.length) {z : Str} (hr : ∀ o, stepM kd b s o = ({ s with now := "wrong", count := s.count + 1 }, [.err z s.count])) (ins : Str) : FinP kd b S0 os (E ++ [.err z (n : Int)]) "wrong" ins := by
  have et : ∃ o, (os.drop n).take 1 = [o] := by
    have := List.drop_eq_getElem_cons hn
    rw [this]
    exact ⟨_, rfl⟩
  obtain ⟨o, et⟩ := et
  have one : runM kd b s ((os.drop n).take 1) = stepM kd b s o := by
    rw [et]
    exact run1 (r := [])
  rw [hr o, h.cnt] at one
  have p := h.adv (k := 1) (E2 := E ++ [.err z (n : Int)]) (by omega) one rfl rfl (by rw [List.length_append]; have := h.el; show E.length + 1 ≤ _; omega) (h.ok.err _ _)
  exact p.wrong rfl ins
theorem step_extra (h : s.now = "over" ∨ s.now = "waiting") (o : Int) : stepM kd b s o = ({ s with now := "wrong", count := s.count + 1 }, [.err "extra" s.count]) := by
  have n1 : s.now ≠ "wrong" := by rcases h with h | h <;> rw [h] <;> decide +kernel
  have n2 : s.now ≠ "raw" := by rcases h with h | h <;> rw [h] <;> decide +kernel
  have n3 : ¬ s.now = "body" := by rcases h with h | h <;> rw [h] <;> decide +kernel
  have e1 : readSome kd b s o = failM "extra" s := (if_neg n2).trans ((if_neg fun z => n3 z.1).trans (if_pos h.symm))
  have e2 : stepM kd b s o = ({ (readSome kd b s o).1 with count := (readSome kd b s o).1.count + 1 }, (readSome kd b s o).2) := if_neg n1
  rw [e2, e1]
  rfl
theorem step_unasked (h : s.now = "start") (hk : kd = RESPS) (ha : s.asks = []) (o : Int) : stepM kd b s o = ({ s with now := "wrong", count := s.count + 1 }, [.err "unasked" s.count]) := by
  have n1 : s.now ≠ "wrong" := by rw [h]; decide +kernel
  have n2 : s.now ≠ "raw" := by rw [h]; decide +kernel
  have n3 : ¬ s.now = "body" := by rw [h]; decide +kernel
  have n4 : ¬ (s.now = "waiting" ∨ s.now = "over") := by rw [h]; decide +kernel
  have e1 : readSome kd b s o = failM "unasked" s := (if_neg n2).trans ((if_neg fun z => n3 z.1).trans ((if_neg n4).trans (if_pos ⟨h, hk, ha⟩)))
  have e2 : stepM kd b s o = ({ (readSome kd b s o).1 with count := (readSome kd b s o).1.count + 1 }, (readSome kd b s o).2) := if_neg n1
  rw [e2, e1]
  rfl
end
end K32

namespace K32
open PySem PySem.Spec PyProof.Rows L2
section
variable {P : Program} {w : World} {K : PySem.W.Frag} {mg : Str → Option Value} {base : Heap} {A : Adr}
/-! ### _law_read -/
/-- a reader before its first octet -/
def Fresh (s : RS) (asks : List Ask) : Prop := s.now = "start" ∧ s.part = "" ∧ s.count = 0 ∧ s.line = [] ∧ s.ending = false ∧ s.asks = asks
theorem cut_rest (os : List Int) (n : Nat) (hn : n ≤ os.length) : cutV (os.map V.int) (some (n : Int)) none = (os.drop n).map V.int := by
  unfold cutV
  have e1 : HT.sIx (os.map V.int).length 0 (some (n : Int)) = n := by
    rw [HT.sIx_nat, List.length_map]
    omega
  rw [e1, HT.sIx_none, List.map_drop]
  exact List.take_of_length_le (by rw [List.length_drop]; exact Nat.le_refl _)
def sp__law_read : Sp := fun vs H Q _ => ∃ (p l0 d : Addr) (kd : Str) (b : Bk) (S0 : RS) (os : List Int) (asks : List Ask),
  vs = [.str kd, .ref p, .ref l0, .ref d] ∧ (kd = REQS ∨ kd = RESPS) ∧ BookAt A H p b ∧ BkOk b ∧ AL H l0 asks ∧ H d = some (.lst (os.map V.int)) ∧ os.length ≤ 200 ∧ asks.length ≤ 100 ∧ Fresh S0 asks ∧
  (∀ t le st ins E H', Ex H H' → H' t = some (.tup [.ref le, .str st, .str ins]) → EL H' le E → EvsOk E → E.length ≤ 201 → (∃ sF EF, runM kd b S0 os = (sF, EF) ∧ joinE EF = joinE E ∧ sF.now = st) → Q (.ref t) H')
abbrev N__law_read : List Str := ["_law_kind", "_law_rules", "_law_asks_here", "_law_data_here", "_law_s"]
theorem sc__law_read : FnScope N__law_read ["_law_kind", "_law_rules", "_law_asks_here", "_law_data_here"] (defScope s__law_read) := ⟨rfl, rfl, rfl, by decide +kernel, rfl, by decide +kernel, by decide +kernel⟩
theorem h__law_read (T : Txt K w mg A) : Has CX0 P w K mg base "_law_read" 12 ["_law_kind", "_law_rules", "_law_asks_here", "_law_data_here"] (sp__law_read (A := A)) := by
  refine has0 (k := 11) T.d__law_read sc__law_read (fun _ _ _ _ _ _ us hl => match us, hl with | [_, _, _, _], _ => rfl) (fun vs H Q E h => ?_) (fun f cdv A0 outer ss H vs Q XE hr h => ?_)
  · obtain ⟨p, l0, d, kd, b, S0, os, asks, rfl, _⟩ := h
    rfl
  · obtain ⟨p, l0, d, kd, b, S0, os, asks, rfl, hkk, hbk, bok, ⟨xs0, hl0, px0⟩, hda, ol, al, ⟨f1, f2, f3, f4, f5, f6⟩, k⟩ := h
    refine ⟨_, ((pss_cons (ps_set (i := 4) sc__law_read.nd rfl (.inl rfl) (pe_disp (pps_cons pe_str pe_int (pps_cons pe_str (pe_lst pa_nil) (pps_cons pe_str pe_str (pps_cons pe_str pe_str (pps_cons pe_str (pe_callTy call_list_of (by rfl) T.b_list (by decide +kernel) (pa_cons (pv 2) pa_nil)) pps_nil))))) rfl rfl (fun z => by cases z) (by decide)))
      (pss_cons (ps_while PassesOwn.never (PW.pt (pw_and (pt_cmpR op_in_seq (pe_dget (hu_of hr) (pv 4) pe_str (fun _ _ => rfl)) (pe_tup (pa_cons pe_str (pa_cons pe_str (pa_cons pe_str (pa_cons pe_str pa_nil))))) (by rfl)) (pw_and (pt_cmpR op_lt (pe_dget (hu_of hr) (pv 4) pe_str (fun _ _ => rfl)) (pe_callB call_len_seq (by rfl) T.b_len PySem.boot_len (pa_cons (pv 3) pa_nil)) (nomark _)) (pw_and1 (pt_cmpR op_eq (pe_dget (hu_of hr) (pv 4) pe_str (fun _ _ => rfl)) pe_str (nomark _))))))
      (pss_one (ps_if (pt_cmpR op_eq (pe_dget (hu_of hr) (pv 4) pe_str (fun _ _ => rfl)) pe_str (nomark _)) (pss_cons (ps_expr (pe_bm PySem.F.plainAttrs_list PySem.F.slot_list_append PySem.F.type_list_append mt_append (pe_dget (hu_of hr) (pv 4) pe_str (fun _ _ => rfl)) (pa_cons (pe_tup (pa_cons pe_str (pa_cons (pe_callTy call_tuple_of (by rfl) T.b_tuple (by decide +kernel) (pa_cons (pe_slice sl_list (pv 3) (po_some (pe_dget (hu_of hr) (pv 4) pe_str (fun _ _ => rfl))) po_none) pa_nil)) pa_nil))) pa_nil)))
      (pss_one (ps_dput (hu_of hr) (pv 4) pe_str (pe_callB call_len_seq (by rfl) T.b_len PySem.boot_len (pa_cons (pv 3) pa_nil)) rfl))) (pss_one (ps_if (pt_cmpR op_ne (pe_dget (hu_of hr) (pv 4) pe_str (fun _ _ => rfl)) pe_str (nomark _)) (pss_one (ps_expr (pe_fn (h__law_fail T) (hr.mono (by decide)) paN (pa_cons (pv 4) (pa_cons pe_str (pa_cons (pe_dget (hu_of hr) (pv 4) pe_str (fun _ _ => rfl)) pa_nil)))))) (pss_one (ps_if (PW.pt (pw_and (pt_cmpR op_eq (pv 0) pe_str (nomark _)) (pw_and1 (pt_cmpR (op_eqNil hr.units) (pe_dget (hu_of hr) (pv 4) pe_str (fun _ _ => rfl)) (pe_lst pa_nil) (nomark _))))) (pss_one (ps_expr (pe_fn (h__law_fail T) (hr.mono (by decide)) paN (pa_cons (pv 4) (pa_cons pe_str (pa_cons (pe_dget (hu_of hr) (pv 4) pe_str (fun _ _ => rfl)) pa_nil)))))) (pss_one (ps_expr (pe_fn (h__law_message T) (hr.mono (by decide)) paN (pa_cons (pv 4) (pa_cons (pv 0) (pa_cons (pv 1) (pa_cons (pv 3) pa_nil))))))))))))))
      (pss_one (ps_ret (pe_tup (pa_cons (pe_dget (hu_of hr) (pv 4) pe_str (fun _ _ => rfl)) (pa_cons (pe_dget (hu_of hr) (pv 4) pe_str (fun _ _ => rfl)) (pa_cons (pe_dget (hu_of hr) (pv 4) pe_str (fun _ _ => rfl)) pa_nil))))))))), ?_⟩
    refine fun ps hps => ?_
    have e0 := Ex.new (o := .dK []) hps
    have hps0 : (upd H ps (.dK [])) ps = some (.dK []) := upd_same
    generalize upd H ps (.dK []) = H0 at *
    refine ⟨Nat.zero_le _, fun le hle => ?_⟩
    have e1 := Ex.new (o := .lst []) hle
    have hle1 : (upd H0 le (.lst [])) le = some (.lst []) := upd_same
    have hps1 := e1 _ _ hps0
    generalize upd H0 le (.lst []) = H1 at *
    refine ⟨_, rfl, l0, xs0, rfl, Or.inl (SqL.of (e1 _ _ (e0 _ _ hl0))), fun la hla => ?_⟩
    have e2 := Ex.new (o := .lst xs0) hla
    have hla2 : (upd H1 la (.lst xs0)) la = some (.lst xs0) := upd_same
    have hps2 := e2 _ _ hps1
    have hle2 := e2 _ _ hle1
    have nll : le ≠ la := ne_of_none hle1 hla
    have npl : ps ≠ le := ne_of_none hps0 hle
    have npa : ps ≠ la := ne_of_none hps1 hla
    generalize upd H1 la (.lst xs0) = H2 at *
    have eA : Ex H H2 := e0.tr (e1.tr e2)
    refine ⟨hps2, [(.inr "at", .int 0), (.inr "events", .ref le), (.inr "state", .str "start"), (.inr "inside", .str ""), (.inr "asks", .ref la)], rfl, by show 5 ≤ 15; decide, ?_⟩
    rw [show mergeK [] [(.inr "at", V.int 0), (.inr "events", .ref le), (.inr "state", .str "start"), (.inr "inside", .str ""), (.inr "asks", .ref la)] = lsk 0 le "start" "" la none from rfl]
    have tk3 : Tk H2 (upd H2 ps (.dK (lsk 0 le "start" "" la none))) := Tk.upd hps2 (fun _ z => by cases z)
    have hL : LSt (upd H2 ps (.dK (lsk 0 le "start" "" la none))) ps le la 0 [] "start" "" asks := ⟨⟨none, upd_same⟩, ⟨[], (upd_ne npl.symm).trans hle2, .nil⟩, ⟨xs0, (upd_ne npa.symm).trans hla2, L2.Paired.mapP px0 fun _ _ q => (q.mono (Tk.of eA)).mono tk3⟩, nll⟩
    have lk0 : LK ps le la 0 [] "start" "" asks (upd H2 ps (.dK (lsk 0 le "start" "" la none))) (upd H2 ps (.dK (lsk 0 le "start" "" la none))) := LK.here hL
    have hC : LCx A (upd H2 ps (.dK (lsk 0 le "start" "" la none))) ps le la p d b os := by
      have eda := eA _ _ hda
      refine ⟨?_, bok, ?_, ?_, ?_, ol⟩
      · obtain ⟨dx, hp⟩ := hbk
        exact ⟨dx, (upd_ne (fun z => by rw [z] at hp; rw [hp] at hps; cases hps)).trans (eA _ _ hp)⟩
      · exact (upd_ne (fun z => by rw [z, hps] at hda; cases hda)).trans eda
      · intro z
        rw [z] at hda
        have := e0 _ _ hda
        rw [hle] at this
        cases this
      · intro z
        rw [z] at hda
        have := e1 _ _ (e0 _ _ hda)
        rw [hla] at this
        cases this
    have eK : ∀ H', Kept (ownL ps le la) (upd H2 ps (.dK (lsk 0 le "start" "" la none))) H' → Ex H H' := fun H' kp a o ha => by
      have n1 : a ≠ ps := ne_of_none ha hps
      have n2 : a ≠ le := ne_of_none (e0 _ _ ha) hle
      have n3 : a ≠ la := ne_of_none (e1 _ _ (e0 _ _ ha)) hla
      exact kp a o ((upd_ne n1).trans (eA _ _ ha)) (by simp [n1, n2, n3])
    have hL4 := lk0.1
    have pos0 : Pos kd b S0 os 0 S0 [] := ⟨Nat.zero_le _, ⟨[], by rw [List.take_zero]; rfl, rfl⟩, f3, Nat.le_refl _, fun e he => by cases he⟩
    generalize upd H2 ps (.dK (lsk 0 le "start" "" la none)) = HA at *
    refine ⟨fun mm σ Hx => σ = [some (.str kd), some (.ref p), some (.ref l0), some (.ref d), some (.ref ps)] ∧
      ((∃ (n : Nat) (E : List Evt) (z : Str) (as : List Ask), mm = os.length - n + 1 ∧ LK ps le la ((n : Nat) : Int) E z "" as HA Hx ∧ Bnd kd b S0 os n E z as) ∨
       (∃ (n : Int) (E : List Evt) (z ins : Str) (as : List Ask), mm = 0 ∧ LK ps le la n E z ins as HA Hx ∧ FinP kd b S0 os E z ins)), ⟨os.length - 0 + 1, rfl, .inl ⟨0, [], "start", asks, rfl, lk0, S0, pos0, f1, f2, f4, f5, f6, .inl rfl⟩⟩, ?_⟩
    rintro mm σ Hx ⟨rfl, hinv⟩
    rcases hinv with ⟨n, E, z, as, rfl, lk, s, pos, sn, sp, sl, se, sa, zin⟩ | ⟨n, E, z, ins, as, rfl, lk, fin⟩
    · obtain ⟨fo, hd⟩ := lk.atp
      refine ⟨_, rfl, ps, _, rfl, dget hd lget_state, by show 4 ≤ sizeLine; decide, fun t4 ht4 => ?_⟩
      have e4 := Ex.new (o := .tup [.str "start", .str "over", .str "waiting", .str "raw"]) ht4
      refine ⟨t4, _, rfl, Or.inr (SqT.of upd_same), rfl, by decide +kernel, _, rfl, ?_⟩
      have hin : inV (.str z) [.str "start", .str "over", .str "waiting", .str "raw"] = true := by
        rcases zin with rfl | rfl | rfl | rfl <;> decide +kernel
      refine ite2 (fun _ => ?_) (fun q => absurd hin q)
      have lk4 := lk.ex e4
      have hd4 := e4 _ _ hd
      have hC4 := hC.keep hL4 lk4.2
      refine ⟨_, rfl, ps, _, rfl, dget hd4 lget_at, _, rfl, d, _, rfl, Or.inl (SqL.of hC4.dat), _, _, rfl, rfl, _, rfl, ?_⟩
      rw [List.length_map]
      refine ite2 (fun c2 => ?_) (fun c2 => ?_)
      · have lt : n < os.length := by
          have := of_decide_eq_true c2
          omega
        refine ⟨_, rfl, ps, _, rfl, dget hd4 lget_inside, rfl, _, rfl, iteT ?_⟩
        refine ⟨fun σ H' => ∃ mm, mm < os.length - n + 1 ∧ σ = [some (.str kd), some (.ref p), some (.ref l0), some (.ref d), some (.ref ps)] ∧
          ((∃ (n : Nat) (E : List Evt) (z : Str) (as : List Ask), mm = os.length - n + 1 ∧ LK ps le la ((n : Nat) : Int) E z "" as HA H' ∧ Bnd kd b S0 os n E z as) ∨
           (∃ (n : Int) (E : List Evt) (z ins : Str) (as : List Ask), mm = 0 ∧ LK ps le la n E z ins as HA H' ∧ FinP kd b S0 os E z ins)), fun σ' H' ⟨mm, h1, h2, h3⟩ => ⟨mm, h1, h2, h3⟩, ?_⟩
        refine ⟨_, rfl, ps, _, rfl, dget hd4 lget_state, rfl, _, rfl, ?_⟩
        rw [dec_vs]
        refine ite2 (fun d1 => ?_) (fun d1 => ?_)
        · have d1' : z = "raw" := of_decide_eq_true d1
          have sr : s.now = "raw" := sn.trans d1'
          have posR := pos.rawAll sr lt
          obtain ⟨xs4, hx4, px4⟩ := lk4.1.ev
          have lx4 := px4.length
          refine ⟨_, rfl, ps, .ref le, rfl, dget hd4 lget_events, Or.inl ⟨rfl, _, SqL.of hx4⟩, _, rfl, _, rfl, ps, _, rfl, dget hd4 lget_at, _, rfl, d, _, rfl, SqL.of hC4.dat, fun q hq => ?_⟩
          rw [cut_rest os n pos.le]
          have e5 := Ex.new (o := .lst ((os.drop n).map V.int)) hq
          refine ⟨q, _, rfl, Or.inl ⟨SqL.of upd_same, fun t5 ht5 => ?_⟩⟩
          have e6 := e5.tr (Ex.new (o := .tup ((os.drop n).map V.int)) ht5)
          refine ⟨by show 2 ≤ sizeLine; decide, fun t6 ht6 => ?_⟩
          have e7 := e6.tr (Ex.new (o := .tup [.str "raw", .ref t5]) ht6)
          have t56 : t5 ≠ t6 := ne_of_none upd_same ht6
          refine ⟨le, xs4, .ref t6, rfl, rfl, e7 _ _ hx4, Nat.lt_of_le_of_lt (by have := pos.el; omega : xs4.length ≤ 1000) (by decide), ?_⟩
          have lk7 : LK ps le la n (E ++ [.run "raw" (os.drop n)]) z "" as HA _ := ⟨((lk4.ex e7).1).push (x := .ref t6) (e := .run "raw" (os.drop n)) (e7 _ _ hx4) ⟨t6, _, rfl, upd_same, t5, rfl, (upd_ne t56).trans upd_same⟩ (evs_mono (Tk.of e7) px4), (lk4.ex e7).2.tr (Kept.upd (by simp))⟩
          obtain ⟨fo7, hd7⟩ := lk7.atp
          have hC7 := hC.keep hL4 lk7.2
          refine ⟨_, rfl, d, _, rfl, Or.inl (SqL.of hC7.dat), _, rfl, ps, _, rfl, dput hd7, ?_⟩
          rw [lput_at, List.length_map]
          have lk8 := lk7.dict hd7 (os.length : Int) z "" fo7
          exact ⟨os.length - os.length + 1, by omega, rfl, .inl ⟨os.length, _, z, as, rfl, lk8, { s with count := (os.length : Int) }, posR, sn, sp, sl, se, sa, zin⟩⟩
        · have d1' : ¬ z = "raw" := fun q => d1 (decide_eq_true q)
          refine ⟨_, rfl, ps, _, rfl, dget hd4 lget_state, rfl, _, rfl, ?_⟩
          rw [dec_vs]
          refine ite2 (fun d2 => ?_) (fun d2 => ?_)
          · have d2' : ¬ z = "start" := fun q => by
              rw [decide_eq_true q] at d2
              cases d2
            have fin := pos.stop lt (fun o => step_extra (by rw [sn]; rcases zin with q | q | q | q; exact absurd q d2'; exact .inl q; exact .inr q; exact absurd q d1') o) ""
            refine ⟨_, rfl, _, rfl, ps, _, rfl, dget hd4 lget_at, ps, le, la, _, E, z, "", as, "extra", _, rfl, lk4.1, by have := pos.el; omega, fun H3 g3 g4 => ?_⟩
            exact ⟨0, by omega, rfl, .inr ⟨_, _, _, _, _, rfl, lk4.tr ⟨g3, g4⟩, fin⟩⟩
          · have d2' : z = "start" := by
              by_cases q : z = "start"
              · exact q
              · exact absurd (by rw [decide_eq_false q]; rfl) d2
            subst d2'
            obtain ⟨ys, hy, py⟩ := lk4.1.ak
            have fail : ∀ H5, LK ps le la ((n : Nat) : Int) E "start" "" as HA H5 → kd = RESPS → as = [] → FinP kd b S0 os (E ++ [.err "unasked" (n : Int)]) "wrong" "" := fun H5 _ hk ha => pos.stop lt (fun o => step_unasked sn hk (sa.trans ha) o) ""
            refine ⟨_, rfl, rfl, _, rfl, ?_⟩
            rw [dec_vs]
            refine ite2 (fun d3 => ?_) (fun d3 => ?_)
            · have hk : kd = RESPS := of_decide_eq_true d3
              refine ⟨_, rfl, ps, _, rfl, dget hd4 lget_asks, Nat.zero_le _, fun tn htn => ?_⟩
              have e5 := Ex.new (o := .lst []) htn
              have lk5 := lk4.ex e5
              obtain ⟨fo5, hd5⟩ := lk5.atp
              refine ⟨la, tn, ys, rfl, rfl, SqL.of (e5 _ _ hy), upd_same, _, rfl, ?_⟩
              refine ite2 (fun d4 => ?_) (fun d4 => ?_)
              · have ya : as = [] := by
                  cases py with
                  | nil => rfl
                  | cons _ _ => cases d4
                refine ⟨_, rfl, _, rfl, ps, _, rfl, dget hd5 lget_at, ps, le, la, _, E, "start", "", as, "unasked", _, rfl, lk5.1, by have := pos.el; omega, fun H3 g3 g4 => ?_⟩
                exact ⟨0, by omega, rfl, .inr ⟨_, _, _, _, _, rfl, lk5.tr ⟨g3, g4⟩, fail _ lk hk ya⟩⟩
              · have na : as ≠ [] := fun q => by
                  rw [q] at py
                  cases py
                  exact d4 rfl
                refine ⟨_, rfl, _, rfl, _, rfl, _, rfl, ps, le, la, p, d, kd, b, S0, os, n, E, as, rfl, hkk, lk5.1, hC.keep hL4 lk5.2, ⟨s, pos, sn, sp, sl, se, sa, zin⟩, fun _ => na, lt, fun n' E' z asks' H' l6 bd nn => ?_, fun n' E' z ins asks' H' l6 fin => ?_⟩
                · exact ⟨os.length - n' + 1, by omega, rfl, .inl ⟨n', E', z, asks', rfl, lk5.tr l6, bd⟩⟩
                · exact ⟨0, by omega, rfl, .inr ⟨n', E', z, ins, asks', rfl, lk5.tr l6, fin⟩⟩
            · have nk : ¬ kd = RESPS := fun q => d3 (decide_eq_true q)
              refine ⟨_, rfl, _, rfl, _, rfl, _, rfl, ps, le, la, p, d, kd, b, S0, os, n, E, as, rfl, hkk, lk4.1, hC4, ⟨s, pos, sn, sp, sl, se, sa, zin⟩, fun q => absurd q nk, lt, fun n' E' z asks' H' l6 bd nn => ?_, fun n' E' z ins asks' H' l6 fin => ?_⟩
              · exact ⟨os.length - n' + 1, by omega, rfl, .inl ⟨n', E', z, asks', rfl, lk4.tr l6, bd⟩⟩
              · exact ⟨0, by omega, rfl, .inr ⟨n', E', z, ins, asks', rfl, lk4.tr l6, fin⟩⟩
      · have en : n = os.length := by
          have := pos.le
          have c3 : ¬ ((n : Int) < (os.length : Int)) := fun q => c2 (decide_eq_true q)
          omega
        subst en
        obtain ⟨zx, hzx⟩ : ∃ zx, zx = z := ⟨_, rfl⟩
        obtain ⟨insx, hix⟩ : ∃ insx : Str, insx = "" := ⟨_, rfl⟩
        obtain ⟨Ex0, hex⟩ : ∃ Ex0, Ex0 = E := ⟨_, rfl⟩
        have lkx := lk4
        rw [← hzx, ← hix, ← hex] at lkx
        have okx := pos.ok
        have lenx : E.length ≤ 201 := by have := pos.el; omega
        have runx : ∃ sF EF, runM kd b S0 os = (sF, EF) ∧ joinE EF = joinE E ∧ sF.now = z := by
          obtain ⟨E', h1, h2⟩ := pos.run
          rw [List.take_length] at h1
          exact ⟨s, E', h1, h2, sn⟩
        rw [← hex] at okx lenx runx
        rw [← hzx] at runx
        obtain ⟨fox, hdx⟩ := lkx.atp
        refine ⟨_, rfl, ps, _, rfl, dget hdx lget_events, _, rfl, ps, _, rfl, dget hdx lget_state, _, rfl, ps, _, rfl, dget hdx lget_inside, by show 3 ≤ sizeLine; decide, fun t ht => ?_⟩
        have ex := Ex.new (o := .tup [.ref le, .str zx, .str insx]) ht
        have lky := lkx.ex ex
        exact k t le zx insx Ex0 _ (eK _ lky.2) upd_same lky.1.ev okx lenx runx
    · obtain ⟨fo, hd⟩ := lk.atp
      have fo1 := fin.out
      have okx := fin.ok
      have lenx : E.length ≤ 201 := by have := fin.el; omega
      have runx := fin.run
      refine ⟨_, rfl, ps, _, rfl, dget hd lget_state, by show 4 ≤ sizeLine; decide, fun t4 ht4 => ?_⟩
      have e4 := Ex.new (o := .tup [.str "start", .str "over", .str "waiting", .str "raw"]) ht4
      refine ⟨t4, _, rfl, Or.inr (SqT.of upd_same), rfl, by decide +kernel, _, rfl, ?_⟩
      have lk4 := lk.ex e4
      have hd4 := e4 _ _ hd
      have hC4 := hC.keep hL4 lk4.2
      obtain ⟨zx, hzx⟩ : ∃ zx, zx = z := ⟨_, rfl⟩
      obtain ⟨insx, hix⟩ : ∃ insx : Str, insx = ins := ⟨_, rfl⟩
      obtain ⟨Ex0, hex⟩ : ∃ Ex0, Ex0 = E := ⟨_, rfl⟩
      have lkx := lk4
      rw [← hzx, ← hix, ← hex] at lkx
      rw [← hex] at okx lenx runx
      rw [← hzx] at runx
      refine ite2 (fun c1 => ?_) (fun c1 => ?_)
      · refine ⟨_, rfl, ps, _, rfl, dget hd4 lget_at, _, rfl, d, _, rfl, Or.inl (SqL.of hC4.dat), _, _, rfl, rfl, _, rfl, ?_⟩
        refine ite2 (fun c2 => ?_) (fun c2 => ?_)
        · have ni : ins ≠ "" := fo1.resolve_left fun q => by
            rw [q] at c1
            exact absurd c1 (by decide +kernel)
          refine ⟨_, rfl, ps, _, rfl, dget hd4 lget_inside, rfl, _, rfl, ?_⟩
          rw [dec_vs, decide_eq_false ni]
          refine iteF ?_
          obtain ⟨fox, hdx⟩ := lkx.atp
          refine ⟨_, rfl, ps, _, rfl, dget hdx lget_events, _, rfl, ps, _, rfl, dget hdx lget_state, _, rfl, ps, _, rfl, dget hdx lget_inside, by show 3 ≤ sizeLine; decide, fun t ht => ?_⟩
          have ex := Ex.new (o := .tup [.ref le, .str zx, .str insx]) ht
          have lky := lkx.ex ex
          exact k t le zx insx Ex0 _ (eK _ lky.2) upd_same lky.1.ev okx lenx runx
        · obtain ⟨fox, hdx⟩ := lkx.atp
          refine ⟨_, rfl, ps, _, rfl, dget hdx lget_events, _, rfl, ps, _, rfl, dget hdx lget_state, _, rfl, ps, _, rfl, dget hdx lget_inside, by show 3 ≤ sizeLine; decide, fun t ht => ?_⟩
          have ex := Ex.new (o := .tup [.ref le, .str zx, .str insx]) ht
          have lky := lkx.ex ex
          exact k t le zx insx Ex0 _ (eK _ lky.2) upd_same lky.1.ev okx lenx runx
      · obtain ⟨fox, hdx⟩ := lkx.atp
        refine ⟨_, rfl, ps, _, rfl, dget hdx lget_events, _, rfl, ps, _, rfl, dget hdx lget_state, _, rfl, ps, _, rfl, dget hdx lget_inside, by show 3 ≤ sizeLine; decide, fun t ht => ?_⟩
        have ex := Ex.new (o := .tup [.ref le, .str zx, .str insx]) ht
        have lky := lkx.ex ex
        exact k t le zx insx Ex0 _ (eK _ lky.2) upd_same lky.1.ev okx lenx runx
end
end K32


namespace K32
open PySem PySem.Spec PyProof.Rows L2
/-! ### the law's bag of numbers -/
def BgAt (H : Hp) (p : Addr) (n : Nat) : Prop := ∃ a b c : Int, H p = some (.lst [.int a, .int b, .int c]) ∧ 0 ≤ c ∧ c ≤ (n : Int)
/-- the bag at p, drawn from at most n times; all else stands -/
def Bg (p : Addr) (n : Nat) (H H' : Hp) : Prop := BgAt H' p n ∧ Kept [p] H H'
section
variable {H H1 H2 : Hp} {p q : Addr} {n m : Nat} {o : HO}
theorem BgAt.le (h : BgAt H p n) (l : n ≤ m) : BgAt H p m := by
  obtain ⟨a, b, c, h1, h2, h3⟩ := h
  exact ⟨a, b, c, h1, h2, by omega⟩
theorem BgAt.some (h : BgAt H p n) : ∃ xs, H p = some (.lst xs) := by
  obtain ⟨a, b, c, h1, _⟩ := h
  exact ⟨_, h1⟩
theorem BgAt.ex (h : BgAt H p n) (e : Ex H H1) : BgAt H1 p n := by
  obtain ⟨a, b, c, h1, h2⟩ := h
  exact ⟨a, b, c, e _ _ h1, h2⟩
theorem BgAt.ne (h : BgAt H p n) (hq : H q = none) : q ≠ p := fun z => by
  obtain ⟨xs, h1⟩ := h.some
  rw [z, h1] at hq
  cases hq
theorem Bg.here (h : BgAt H p n) : Bg p n H H := ⟨h, Kept.rfl'⟩
theorem Bg.tr (a : Bg p n H H1) (b : Bg p m H1 H2) : Bg p m H H2 := ⟨b.1, a.2.tr b.2⟩
theorem Bg.ex (a : Bg p n H H1) (e : Ex H1 H2) : Bg p n H H2 := ⟨a.1.ex e, a.2.tr (Kept.of e)⟩
theorem Bg.le (a : Bg p n H H1) (l : n ≤ m) : Bg p m H H1 := ⟨a.1.le l, a.2⟩
theorem Bg.at (a : Bg p n H H1) (h : H q = some o) (hn : q ≠ p) : H1 q = some o := a.2 q o h (by simpa using hn)
theorem Bg.free (a : Bg p n H H1) (h : H1 q = none) : H q = none := by
  cases e : H q with
  | none => rfl
  | some u => rw [a.at e (a.1.ne h)] at h; cases h
theorem Bg.upd (a : Bg p n H H1) (h : H q = none) (hn : q ≠ p) : Bg p n H (upd H1 q o) := by
  refine ⟨?_, fun c u hc hm => ?_⟩
  · obtain ⟨x, y, z, h1, h2⟩ := a.1
    exact ⟨x, y, z, (upd_ne (Ne.symm hn)).trans h1, h2⟩
  · exact (upd_ne (ne_of_none hc h)).trans (a.2 c u hc hm)
end
/-! texts of the drawn messages -/
def txb (n : Nat) (z : Str) : Bool := z.cps.toList.all (fun c => okC c || decide (c = 10)) && decide (z.length ≤ n)
def TxOk (n : Nat) (z : Str) : Prop := okT z ∧ z.length ≤ n
theorem TxOk.c {n : Nat} {z : Str} (h : txb n z = true) : TxOk n z := by
  unfold txb at h
  rw [Bool.and_eq_true, List.all_eq_true, decide_eq_true_eq] at h
  refine ⟨fun c hc => ?_, h.2⟩
  have := h.1 c hc
  rw [Bool.or_eq_true, decide_eq_true_eq] at this
  exact this
theorem TxOk.app {n m : Nat} {x y : Str} (a : TxOk n x) (b : TxOk m y) : TxOk (n + m) (x ++ y) := by
  refine ⟨fun c hc => ?_, ?_⟩
  · have : c ∈ x.cps.toList ++ y.cps.toList := by
      have e : (x ++ y).cps = x.cps ++ y.cps := rfl
      rw [e] at hc
      simpa using hc
    rcases List.mem_append.mp this with h | h
    · exact a.1 c h
    · exact b.1 c h
  · rw [str_len_app]
    have := a.2
    have := b.2
    omega
theorem TxOk.le {n m : Nat} {x : Str} (a : TxOk n x) (h : n ≤ m) : TxOk m x := ⟨a.1, Nat.le_trans a.2 h⟩
theorem TxOk.sum {n m : Nat} {x y : Str} (a : TxOk n x) (b : TxOk m y) (h : n + m ≤ 100000) : x.length + y.length ≤ sizeLine := by
  have := a.2
  have := b.2
  exact small (by omega)
theorem pick_str {ss : List Str} {n : Nat} {x : V} (hs : ss.all (txb n) = true) (h : x ∈ ss.map V.str) : ∃ z, x = .str z ∧ z ∈ ss ∧ TxOk n z := by
  obtain ⟨z, hz, rfl⟩ := List.mem_map.mp h
  exact ⟨z, rfl, hz, TxOk.c (List.all_eq_true.mp hs z hz)⟩
theorem pick_int {l : List Int} {lo hi : Int} {x : V} (hs : l.all (fun i => decide (lo ≤ i) && decide (i ≤ hi)) = true) (h : x ∈ l.map V.int) : ∃ i, x = .int i ∧ i ∈ l ∧ lo ≤ i ∧ i ≤ hi := by
  obtain ⟨i, hi', rfl⟩ := List.mem_map.mp h
  have := List.all_eq_true.mp hs i hi'
  rw [Bool.and_eq_true, decide_eq_true_eq, decide_eq_true_eq] at this
  exact ⟨i, rfl, hi', this.1, this.2⟩
theorem pz1 : (0 : Int) < 2147483629 := by decide
theorem pz2 : (0 : Int) < 2147483647 := by decide
theorem pz3 : (0 : Int) < 2147483549 := by decide
theorem log_ok : ∀ n : Nat, n < 601 → n.log2 < 1920 := by decide +kernel
theorem shown_ok : ∀ n : Nat, n < 601 → txb 4 (toString (n : Int)) = true := by decide +kernel
theorem str_int {i : Int} (h0 : 0 ≤ i) (h1 : i ≤ 600) : i.natAbs.log2 < 1920 ∧ TxOk 4 (toString i) := by
  obtain ⟨n, rfl⟩ := Int.eq_ofNat_of_zero_le h0
  have hn : n < 601 := by omega
  exact ⟨log_ok n hn, TxOk.c (shown_ok n hn)⟩
section
variable {P : Program} {w : World} {K : PySem.W.Frag} {mg : Str → Option Value} {base : Heap} {A : Adr}
/-! ### _law_bag, _law_take, _law_pick -/
def sp__law_bag (K : PySem.W.Frag) : Sp := fun vs H Q _ => ∃ (s : Addr) (ns : List Int) (k : Int), vs = [.ref s, .int k] ∧ SqL K H s (ns.map V.int) ∧ 0 ≤ k ∧ k ≤ 100 ∧ ∀ p H', H p = none → Ex H H' → BgAt H' p 0 → Q (.ref p) H'
abbrev N__law_bag : List Str := ["_law_script", "_law_at", "_law_cell", "_law_digits"]
theorem sc__law_bag : FnScope N__law_bag ["_law_script", "_law_at"] (defScope s__law_bag) := ⟨rfl, rfl, rfl, by decide +kernel, rfl, by decide +kernel, by decide +kernel⟩
theorem h__law_bag (T : Txt K w mg A) : Has CX0 P w K mg base "_law_bag" 1 ["_law_script", "_law_at"] (sp__law_bag K) := by
  refine has0 (k := 0) T.d__law_bag sc__law_bag (fun _ _ _ _ _ _ us hl => match us, hl with | [_, _], _ => rfl) (fun vs H Q E h => ?_) (fun f cdv A0 outer ss H vs Q XE hr h => ?_)
  · obtain ⟨s, ns, k, rfl, _⟩ := h
    rfl
  · obtain ⟨s, ns, k, rfl, hs, k0, k1, hk⟩ := h
    refine ⟨_, ((pss_cons (ps_set (i := 2) sc__law_bag.nd rfl (.inl rfl) (pe_ifExp (pt_cmpR op_lt (pv 1) (pe_callB call_len_seq (by rfl) T.b_len PySem.boot_len (pa_cons (pv 0) pa_nil)) (nomark _)) (pe_ix ix_list (pv 0) (pv 1) (fun _ _ => rfl)) pe_int))
      (pss_cons (ps_set (i := 3) sc__law_bag.nd rfl (.inl rfl) (pe_ifExp (pt_cmpR op_ge (pe_callB call_abs (by rfl) T.b_abs (by decide +kernel) (pa_cons (pv 2) pa_nil)) (pe_op op_pow pe_int pe_int) (nomark _)) (pe_callB call_abs (by rfl) T.b_abs (by decide +kernel) (pa_cons (pv 2) pa_nil)) pe_int))
      (pss_one (ps_ret (pe_lst (pa_cons (pv 3) (pa_cons (pe_op op_mod (pe_op op_pow (pe_op op_add (pe_op op_add (pe_op op_mod (pv 2) pe_int) (pe_op op_mul pe_int (pv 1))) pe_int) pe_int) pe_int) (pa_cons pe_int pa_nil))))))))), ?_⟩
    refine ⟨_, rfl, _, rfl, s, _, rfl, .inl hs, _, _, rfl, rfl, _, rfl, ?_⟩
    have fin : ∀ (cell : Int), (cell % 2147483629 + 8111 * k + 37).natAbs < 2 ^ 64 := fun cell => by
      have a1 := Int.emod_nonneg cell (show (2147483629 : Int) ≠ 0 by decide)
      have a2 := Int.emod_lt_of_pos cell (show (0 : Int) < 2147483629 by decide)
      have : (2 : Nat) ^ 64 = 18446744073709551616 := by decide
      rw [this]
      omega
    refine ite2 (fun h1 => ?_) (fun h1 => ?_)
    · rw [List.length_map, decide_eq_true_eq] at h1
      obtain ⟨j, rfl⟩ := Int.eq_ofNat_of_zero_le k0
      have hj : j < ns.length := by omega
      refine ⟨_, rfl, _, rfl, s, _, _, _, rfl, rfl, hs, atI_nat (by rw [List.getElem?_map, List.getElem?_eq_getElem hj]; rfl), ?_⟩
      refine ⟨_, rfl, _, rfl, _, _, rfl, rfl, ⟨by decide, by decide, by decide⟩, _, _, rfl, rfl, _, rfl, ?_⟩
      refine ite2 (fun h2 => ?_) (fun h2 => ?_)
      · refine ⟨_, rfl, _, rfl, ?_⟩
        refine ⟨_, rfl, _, rfl, _, _, rfl, rfl, pz1, _, rfl, _, _, rfl, rfl, .inl ⟨by decide, by decide⟩, _, _, rfl, rfl, _, _, rfl, rfl, _, _, rfl, rfl, ⟨by decide, by decide, fin _⟩, _, _, rfl, rfl, pz2, by show 3 ≤ sizeLine; decide, fun p hp => ?_⟩
        exact hk p _ hp (Ex.new hp) ⟨_, _, _, upd_same, by decide, by decide⟩
      · refine ⟨_, rfl, _, rfl, _, _, rfl, rfl, pz1, _, rfl, _, _, rfl, rfl, .inl ⟨by decide, by decide⟩, _, _, rfl, rfl, _, _, rfl, rfl, _, _, rfl, rfl, ⟨by decide, by decide, fin _⟩, _, _, rfl, rfl, pz2, by show 3 ≤ sizeLine; decide, fun p hp => ?_⟩
        exact hk p _ hp (Ex.new hp) ⟨_, _, _, upd_same, by decide, by decide⟩
    · refine ⟨_, rfl, _, rfl, _, _, rfl, rfl, ⟨by decide, by decide, by decide⟩, _, _, rfl, rfl, _, rfl, ?_⟩
      refine ite2 (fun h2 => ?_) (fun h2 => ?_)
      · refine ⟨_, rfl, _, rfl, ?_⟩
        refine ⟨_, rfl, _, rfl, _, _, rfl, rfl, pz1, _, rfl, _, _, rfl, rfl, .inl ⟨by decide, by decide⟩, _, _, rfl, rfl, _, _, rfl, rfl, _, _, rfl, rfl, ⟨by decide, by decide, fin _⟩, _, _, rfl, rfl, pz2, by show 3 ≤ sizeLine; decide, fun p hp => ?_⟩
        exact hk p _ hp (Ex.new hp) ⟨_, _, _, upd_same, by decide, by decide⟩
      · refine ⟨_, rfl, _, rfl, _, _, rfl, rfl, pz1, _, rfl, _, _, rfl, rfl, .inl ⟨by decide, by decide⟩, _, _, rfl, rfl, _, _, rfl, rfl, _, _, rfl, rfl, ⟨by decide, by decide, fin _⟩, _, _, rfl, rfl, pz2, by show 3 ≤ sizeLine; decide, fun p hp => ?_⟩
        exact hk p _ hp (Ex.new hp) ⟨_, _, _, upd_same, by decide, by decide⟩
def sp__law_take : Sp := fun vs H Q _ => ∃ (p : Addr) (n : Nat) (m : Int), vs = [.ref p, .int m] ∧ BgAt H p n ∧ n ≤ 1000000 ∧ 0 < m ∧ m < 1000000 ∧ ∀ i H', 0 ≤ i → i < m → Bg p (n + 1) H H' → Q (.int i) H'
abbrev N__law_take : List Str := ["_law_bag_here", "_law_many", "_law_digit"]
theorem sc__law_take : FnScope N__law_take ["_law_bag_here", "_law_many"] (defScope s__law_take) := ⟨rfl, rfl, rfl, by decide +kernel, rfl, by decide +kernel, by decide +kernel⟩
theorem h__law_take (T : Txt K w mg A) : Has CX0 P w K mg base "_law_take" 1 ["_law_bag_here", "_law_many"] sp__law_take := by
  refine has0 (k := 0) T.d__law_take sc__law_take (fun _ _ _ _ _ _ us hl => match us, hl with | [_, _], _ => rfl) (fun vs H Q E h => ?_) (fun f cdv A0 outer ss H vs Q XE hr h => ?_)
  · obtain ⟨p, n, m, rfl, _⟩ := h
    rfl
  · obtain ⟨p, n, m, rfl, ⟨a, b, c, hb, c0, cn⟩, nn, m0, mb, k⟩ := h
    refine ⟨_, ((pss_cons (ps_if (pt_cmpR op_gt (pe_ix ix_list (pv 0) pe_int (fun _ _ => rfl)) pe_int (nomark _)) (pss_cons (ps_set (i := 2) sc__law_take.nd rfl (.inl rfl) (pe_op op_mod (pe_ix ix_list (pv 0) pe_int (fun _ _ => rfl)) (pv 1)))
      (pss_cons (ps_asg (pe_op op_fdiv (pe_ix ix_list (pv 0) pe_int (fun _ _ => rfl)) (pv 1)) (pg_sub (pv 0) pe_int set_list))
      (pss_one (ps_ret (pv 2))))) pss_nil)
      (pss_cons (ps_asg (pe_op op_add (pe_ix ix_list (pv 0) pe_int (fun _ _ => rfl)) pe_int) (pg_sub (pv 0) pe_int set_list))
      (pss_cons (ps_asg (pe_op op_mod (pe_op op_add (pe_op op_add (pe_op op_mul (pe_ix ix_list (pv 0) pe_int (fun _ _ => rfl)) pe_int) (pe_op op_mul (pe_op op_mul pe_int (pe_ix ix_list (pv 0) pe_int (fun _ _ => rfl))) (pe_ix ix_list (pv 0) pe_int (fun _ _ => rfl)))) pe_int) pe_int) (pg_sub (pv 0) pe_int set_list))
      (pss_one (ps_ret (pe_op op_mod (pe_op op_mod (pe_op op_pow (pe_op op_fdiv (pe_ix ix_list (pv 0) pe_int (fun _ _ => rfl)) pe_int) pe_int) pe_int) (pv 1)))))))), ?_⟩
    refine ⟨_, rfl, p, _, _, _, rfl, rfl, SqL.of hb, at0 _ _, _, _, rfl, rfl, _, rfl, ?_⟩
    refine ite2 (fun _ => ?_) (fun _ => ?_)
    · refine ⟨_, rfl, p, _, _, _, rfl, rfl, SqL.of hb, at0 _ _, _, rfl, _, _, rfl, rfl, m0, ?_⟩
      refine ⟨_, rfl, p, _, _, _, rfl, rfl, SqL.of hb, at0 _ _, _, rfl, _, _, rfl, rfl, ⟨m0, by omega⟩, _, rfl, p, _, _, 0, rfl, rfl, hb, rfl, ?_⟩
      refine ⟨_, rfl, k _ _ (Int.emod_nonneg _ (by omega)) (Int.emod_lt_of_pos _ m0) ⟨⟨_, _, _, upd_same, c0, by omega⟩, Kept.upd (by simp)⟩⟩
    · refine ⟨_, rfl, p, _, _, _, rfl, rfl, SqL.of hb, atI_nat (j := 2) rfl, _, _, rfl, rfl, _, rfl, p, _, _, 2, rfl, rfl, hb, rfl, ?_⟩
      have hb2 : (upd H p (.lst ([V.int a, .int b, .int c].set 2 (.int (c + 1))))) p = some (.lst [.int a, .int b, .int (c + 1)]) := upd_same
      have kp2 : Kept [p] H (upd H p (.lst ([V.int a, .int b, .int c].set 2 (.int (c + 1))))) := Kept.upd (by simp)
      generalize upd H p (.lst ([V.int a, .int b, .int c].set 2 (.int (c + 1)))) = H2 at *
      have i64 : (2 : Int) ^ 64 = 18446744073709551616 := by decide
      refine ⟨_, rfl, p, _, _, _, rfl, rfl, SqL.of hb2, atI_nat (j := 1) rfl, _, _, rfl, rfl, .inr ⟨by decide, by decide⟩, _, rfl, p, _, _, _, rfl, rfl, SqL.of hb2, atI_nat (j := 2) rfl, _, _, rfl, rfl, .inl ⟨by decide, by decide⟩,
        _, rfl, p, _, _, _, rfl, rfl, SqL.of hb2, atI_nat (j := 2) rfl, _, _, rfl, rfl, .inr ⟨by rw [i64]; omega, by rw [i64]; omega⟩, _, _, rfl, rfl, _, _, rfl, rfl, _, _, rfl, rfl, pz2, _, rfl, p, _, _, 1, rfl, rfl, hb2, rfl, ?_⟩
      generalize hH3 : upd H2 p _ = H3
      have hb3 : H3 p = some (.lst [.int a, .int ((b * 16807 + 7331 * (c + 1) * (c + 1) + 13) % 2147483647), .int (c + 1)]) := by
        rw [← hH3]
        exact upd_same
      have kp3 : Kept [p] H H3 := by
        rw [← hH3]
        exact kp2.tr (Kept.upd (by simp))
      clear hH3
      have z0 : 0 ≤ (b * 16807 + 7331 * (c + 1) * (c + 1) + 13) % 2147483647 := Int.emod_nonneg _ (by decide)
      have z1 : (b * 16807 + 7331 * (c + 1) * (c + 1) + 13) % 2147483647 < 2147483647 := Int.emod_lt_of_pos _ pz2
      generalize (b * 16807 + 7331 * (c + 1) * (c + 1) + 13) % 2147483647 = z at *
      refine ⟨_, rfl, p, _, _, _, rfl, rfl, SqL.of hb3, atI_nat (j := 1) rfl, _, _, rfl, rfl, ⟨by decide, by decide⟩, _, _, rfl, rfl, ⟨by decide, by decide, ?_⟩, _, _, rfl, rfl, pz3, _, rfl, _, _, rfl, rfl, m0, ?_⟩
      · have : (2 : Nat) ^ 64 = 18446744073709551616 := by decide
        rw [this]
        omega
      · exact k _ _ (Int.emod_nonneg _ (by omega)) (Int.emod_lt_of_pos _ m0) ⟨⟨_, _, _, hb3, by omega, by omega⟩, kp3⟩
def sp__law_pick : Sp := fun vs H Q _ => ∃ (p q : Addr) (n : Nat) (xs : List V), vs = [.ref p, .ref q] ∧ BgAt H p n ∧ n ≤ 1000000 ∧ q ≠ p ∧ H q = some (.lst xs) ∧ xs ≠ [] ∧ xs.length ≤ 1000 ∧ ∀ x H', x ∈ xs → Bg p (n + 1) H H' → Q x H'
abbrev N__law_pick : List Str := ["_law_bag_here", "_law_menu"]
theorem sc__law_pick : FnScope N__law_pick ["_law_bag_here", "_law_menu"] (defScope s__law_pick) := ⟨rfl, rfl, rfl, by decide +kernel, rfl, by decide +kernel, by decide +kernel⟩
theorem h__law_pick (T : Txt K w mg A) : Has CX0 P w K mg base "_law_pick" 2 ["_law_bag_here", "_law_menu"] sp__law_pick := by
  refine has0 (k := 1) T.d__law_pick sc__law_pick (fun _ _ _ _ _ _ us hl => match us, hl with | [_, _], _ => rfl) (fun vs H Q E h => ?_) (fun f cdv A0 outer ss H vs Q XE hr h => ?_)
  · obtain ⟨p, q, n, xs, rfl, _⟩ := h
    rfl
  · obtain ⟨p, q, n, xs, rfl, hb, nn, qp, hq, hx, hl, k⟩ := h
    refine ⟨_, ((pss_one (ps_ret (pe_ix ix_list (pv 1) (pe_fn (h__law_take T) (hr.mono (by decide)) paN (pa_cons (pv 0) (pa_cons (pe_callB call_len_seq (by rfl) T.b_len PySem.boot_len (pa_cons (pv 1) pa_nil)) pa_nil))) (fun _ _ => rfl))))), ?_⟩
    have l0 : 0 < xs.length := List.length_pos_iff.mpr hx
    refine ⟨_, rfl, _, rfl, _, rfl, q, _, rfl, .inl (SqL.of hq), p, n, _, rfl, hb, nn, by omega, by omega, fun i H2 i0 i1 bg => ?_⟩
    obtain ⟨j, rfl⟩ := Int.eq_ofNat_of_zero_le i0
    have hj : j < xs.length := by omega
    exact ⟨q, _, _, xs[j], rfl, rfl, SqL.of (bg.at hq qp), atI_nat (List.getElem?_eq_getElem hj), k _ _ (List.getElem_mem hj) bg⟩
end
end K32

namespace K32
open PySem PySem.Spec PyProof.Rows L2
section
variable {P : Program} {w : World} {K : PySem.W.Frag} {mg : Str → Option Value} {base : Heap} {A : Adr}
/-! ### _law_book -/
theorem two_of {a b : Str} {x : V} (h : x ∈ ([a, b] : List Str).map V.str) : ∃ z, x = .str z ∧ (z = a ∨ z = b) := by
  obtain ⟨z, hz, rfl⟩ := List.mem_map.mp h
  refine ⟨z, rfl, ?_⟩
  simpa using hz
theorem mk_ex2 {H H' : Hp} {x dx C : Addr} (hx : H x = none) (hd : H dx = none) (h : ∀ c o, c ≠ x → (upd (upd H dx (.own x)) x (.ins C dx [])) c = some o → H' c = some o) : Ex H H' := fun a o ha => by
  have e1 := ne_of_none ha hx
  have e2 := ne_of_none ha hd
  exact h a o e1 (by rw [upd_ne e1, upd_ne e2]; exact ha)
def bk0 : Bk := ⟨"refuse", "refuse", "refuse", true, 100, 16, 6⟩
theorem bk0_in : BkIn bk0 := ⟨⟨by decide, by decide, by decide, by decide, by decide, by decide⟩, .inl rfl, .inl rfl, .inl rfl⟩
def sp__law_book : Sp := fun vs H Q _ => ∃ (p : Addr) (n : Nat), vs = [.ref p] ∧ BgAt H p n ∧ n ≤ 500000 ∧ ∀ q b H', BookAt A H' q b → BkIn b → Bg p (n + 10) H H' → Q (.ref q) H'
abbrev N__law_book : List Str := ["_law_bag_here", "_law_way", "_law_long", "_law_many", "_law_one_here", "_law_old", "_law_some", "_law_kept"]
theorem sc__law_book : FnScope N__law_book ["_law_bag_here"] (defScope s__law_book) := ⟨rfl, rfl, rfl, by decide +kernel, rfl, by decide +kernel, by decide +kernel⟩
theorem h__law_book (T : Txt K w mg A) : Has CX0 P w K mg base "_law_book" 5 ["_law_bag_here"] (sp__law_book (A := A)) := by
  refine has0 (k := 4) T.d__law_book sc__law_book (fun _ _ _ _ _ _ us hl => match us, hl with | [_], _ => rfl) (fun vs H Q E h => ?_) (fun f cdv A0 outer ss H vs Q XE hr h => ?_)
  · obtain ⟨p, n, rfl, _⟩ := h
    rfl
  · obtain ⟨p, n, rfl, hb, nn, k⟩ := h
    refine ⟨_, ((pss_cons (ps_set (i := 1) sc__law_book.nd rfl (.inl rfl) (pe_fn (h__law_take T) (hr.mono (by decide)) paN (pa_cons (pv 0) (pa_cons pe_int pa_nil))))
      (pss_cons (ps_if (pt_cmpR op_lt (pv 1) pe_int (nomark _)) (pss_one (ps_ret (pe_mk0 (hi_Book0 T) (hr.mono (by decide))))) pss_nil)
      (pss_cons (ps_par (i := 2) (j := 3) (by rfl) sc__law_book.nd rfl rfl (by decide) rfl rfl (pa_cons (pe_fn (h__law_pick T) (hr.mono (by decide)) paN (pa_cons (pv 0) (pa_cons (pe_lst (pa_cons pe_int (pa_cons pe_int (pa_cons pe_int (pa_cons pe_int pa_nil))))) pa_nil))) (pa_cons (pe_fn (h__law_pick T) (hr.mono (by decide)) paN (pa_cons (pv 0) (pa_cons (pe_lst (pa_cons pe_int (pa_cons pe_int (pa_cons pe_int pa_nil)))) pa_nil))) pa_nil)) (by rfl))
      (pss_cons (ps_if (pt_cmpR op_eq (pv 1) pe_int (nomark _)) (pss_one (ps_ret (pe_mkK0 (hi_Book3 T) (hr.mono (by decide)) (pk_cons (pv 2) (pk_cons (pv 3) (pk_cons (pe_fn (h__law_pick T) (hr.mono (by decide)) paN (pa_cons (pv 0) (pa_cons (pe_lst (pa_cons pe_int (pa_cons pe_int (pa_cons pe_int pa_nil)))) pa_nil))) pk_nil)))))) pss_nil)
      (pss_cons (ps_par (i := 4) (j := 5) (by rfl) sc__law_book.nd rfl rfl (by decide) rfl rfl (pa_cons (pe_fn (h__law_pick T) (hr.mono (by decide)) paN (pa_cons (pv 0) (pa_cons (pe_lst (pa_cons pe_str (pa_cons pe_str pa_nil))) pa_nil))) (pa_cons (pe_fn (h__law_pick T) (hr.mono (by decide)) paN (pa_cons (pv 0) (pa_cons (pe_lst (pa_cons pe_str (pa_cons pe_str pa_nil))) pa_nil))) pa_nil)) (by rfl))
      (pss_cons (ps_par (i := 6) (j := 7) (by rfl) sc__law_book.nd rfl rfl (by decide) rfl rfl (pa_cons (pe_fn (h__law_pick T) (hr.mono (by decide)) paN (pa_cons (pv 0) (pa_cons (pe_lst (pa_cons pe_str (pa_cons pe_str pa_nil))) pa_nil))) (pa_cons (pe_cmpR op_eq (pe_fn (h__law_take T) (hr.mono (by decide)) paN (pa_cons (pv 0) (pa_cons pe_int pa_nil))) pe_int (nomark _)) pa_nil)) (by rfl))
      (pss_one (ps_ret (pe_mkK0 (hi_Book5 T) (hr.mono (by decide)) (pk_cons (pv 4) (pk_cons (pv 6) (pk_cons (pv 5) (pk_cons (pv 7) (pk_cons (pv 2) pk_nil))))))))))))))), ?_⟩
    have B0 := Bg.here hb
    refine ⟨_, rfl, p, _, 4, rfl, B0.1, by omega, by decide, by decide, fun t1 H1 t10 t11 bg1 => ?_⟩
    have B1 := B0.tr bg1
    clear bg1 B0
    refine ⟨_, rfl, _, _, rfl, rfl, _, rfl, ?_⟩
    refine ite2 (fun c1 => ?_) (fun c1 => ?_)
    · refine fun x dx hx hdx ne => ⟨x, bk0, dx, rfl, bk0_in, upd_same, fun H3 g1 g2 => ⟨rfl, ?_⟩⟩
      exact k x bk0 H3 ⟨dx, g1⟩ bk0_in ((B1.ex (mk_ex2 hx hdx g2)).le (by omega))
    · refine ⟨_, rfl, by show 4 ≤ sizeLine; decide, fun l2 hl2 => ⟨p, l2, _, _, rfl, B1.1.ex (Ex.new hl2), by omega, B1.1.ne hl2, upd_same, (fun z => by cases z), by show 4 ≤ 1000; decide, fun x2 H2 hx2 bg2 => ?_⟩⟩
      have B2 := (B1.ex (Ex.new hl2)).tr bg2
      clear bg2 B1
      obtain ⟨li, rfl, lim, li0, li1⟩ := pick_int (l := [40,60,100,200]) (lo := 40) (hi := 200) (by decide) hx2
      refine ⟨_, rfl, by show 3 ≤ sizeLine; decide, fun l3 hl3 => ⟨p, l3, _, _, rfl, B2.1.ex (Ex.new hl3), by omega, B2.1.ne hl3, upd_same, (fun z => by cases z), by show 3 ≤ 1000; decide, fun x3 H3 hx3 bg3 => ?_⟩⟩
      have B3 := (B2.ex (Ex.new hl3)).tr bg3
      clear bg3 B2
      obtain ⟨fi, rfl, fim, fi0, fi1⟩ := pick_int (l := [2,3,16]) (lo := 2) (hi := 16) (by decide) hx3
      refine ⟨_, _, rfl, ?_⟩
      refine ⟨_, rfl, rfl, _, rfl, ?_⟩
      refine ite2 (fun c2 => ?_) (fun c2 => ?_)
      · refine ⟨_, rfl, _, rfl, ?_⟩
        refine ⟨_, rfl, by show 3 ≤ sizeLine; decide, fun l4 hl4 => ⟨p, l4, _, _, rfl, B3.1.ex (Ex.new hl4), by omega, B3.1.ne hl4, upd_same, (fun z => by cases z), by show 3 ≤ 1000; decide, fun x4 H4 hx4 bg4 => ?_⟩⟩
        have B4 := (B3.ex (Ex.new hl4)).tr bg4
        clear bg4 B3
        obtain ⟨di, rfl, dim, di0, di1⟩ := pick_int (l := [1,2,6]) (lo := 1) (hi := 6) (by decide) hx4
        have bi : BkIn ⟨"refuse", "refuse", "refuse", true, li, fi, di⟩ := ⟨⟨by show 40 ≤ li; omega, by show li ≤ 200; omega, by show 2 ≤ fi; omega, by show fi ≤ 20; omega, by show 1 ≤ di; omega, by show di ≤ 8; omega⟩, .inl rfl, .inl rfl, .inl rfl⟩
        refine ⟨rfl, rfl, fun x dx hx hdx ne => ⟨x, ⟨"refuse", "refuse", "refuse", true, li, fi, di⟩, dx, rfl, bi, upd_same, fun H5 g1 g2 => ⟨rfl, ?_⟩⟩⟩
        exact k x _ H5 ⟨dx, g1⟩ bi ((B4.ex (mk_ex2 hx hdx g2)).le (by omega))
      · refine ⟨_, rfl, by show 2 ≤ sizeLine; decide, fun l4 hl4 => ⟨p, l4, _, _, rfl, B3.1.ex (Ex.new hl4), by omega, B3.1.ne hl4, upd_same, (fun z => by cases z), by show 2 ≤ 1000; decide, fun x4 H4 hx4 bg4 => ?_⟩⟩
        have B4 := (B3.ex (Ex.new hl4)).tr bg4
        clear bg4 B3
        obtain ⟨za, rfl, hza⟩ := two_of (a := "refuse") (b := "chunked") hx4
        refine ⟨_, rfl, by show 2 ≤ sizeLine; decide, fun l5 hl5 => ⟨p, l5, _, _, rfl, B4.1.ex (Ex.new hl5), by omega, B4.1.ne hl5, upd_same, (fun z => by cases z), by show 2 ≤ 1000; decide, fun x5 H5 hx5 bg5 => ?_⟩⟩
        have B5 := (B4.ex (Ex.new hl5)).tr bg5
        clear bg5 B4
        obtain ⟨zb, rfl, hzb⟩ := two_of (a := "refuse") (b := "accept") hx5
        refine ⟨_, _, rfl, ?_⟩
        refine ⟨_, rfl, by show 2 ≤ sizeLine; decide, fun l6 hl6 => ⟨p, l6, _, _, rfl, B5.1.ex (Ex.new hl6), by omega, B5.1.ne hl6, upd_same, (fun z => by cases z), by show 2 ≤ 1000; decide, fun x6 H6 hx6 bg6 => ?_⟩⟩
        have B6 := (B5.ex (Ex.new hl6)).tr bg6
        clear bg6 B5
        obtain ⟨zc, rfl, hzc⟩ := two_of (a := "refuse") (b := "equal") hx6
        refine ⟨_, rfl, p, _, 2, rfl, B6.1, by omega, by decide, by decide, fun t7 H7 t70 t71 bg7 => ?_⟩
        have B7 := B6.tr bg7
        clear bg7 B6
        refine ⟨rfl, _, _, rfl, ?_⟩
        have bi : BkIn ⟨za, zc, zb, decide (V.int t7 = .int 0), li, 16, 6⟩ := ⟨⟨by show 40 ≤ li; omega, by show li ≤ 200; omega, by show (2 : Int) ≤ 16; decide, by show (16 : Int) ≤ 20; decide, by show (1 : Int) ≤ 6; decide, by show (6 : Int) ≤ 8; decide⟩, hza, hzc, hzb⟩
        refine ⟨_, rfl, _, rfl, _, rfl, _, rfl, _, rfl, rfl, rfl, fun x dx hx hdx ne => ⟨x, ⟨za, zc, zb, decide (V.int t7 = .int 0), li, 16, 6⟩, dx, rfl, bi, upd_same, fun H8 g1 g2 => ⟨rfl, ?_⟩⟩⟩
        exact k x _ H8 ⟨dx, g1⟩ bi ((B7.ex (mk_ex2 hx hdx g2)).le (by omega))
end
end K32

namespace K32
open PySem PySem.Spec PyProof.Rows L2
section
variable {P : Program} {w : World} {K : PySem.W.Frag} {mg : Str → Option Value} {base : Heap} {A : Adr}
/-! ### _law_head, _law_lines_of -/
def sp__law_head : Sp := fun vs H Q _ => ∃ (p : Addr) (n : Nat) (kd : Str) (v : Int), vs = [.ref p, .str kd, .int v] ∧ BgAt H p n ∧ n ≤ 500000 ∧ 0 ≤ v ∧ v ≤ 1 ∧ ∀ z H', TxOk 100 z → Bg p (n + 10) H H' → Q (.str z) H'
abbrev N__law_head : List Str := ["_law_bag_here", "_law_kind", "_law_version", "_law_words", "_law_status"]
theorem sc__law_head : FnScope N__law_head ["_law_bag_here", "_law_kind", "_law_version"] (defScope s__law_head) := ⟨rfl, rfl, rfl, by decide +kernel, rfl, by decide +kernel, by decide +kernel⟩
theorem h__law_head (T : Txt K w mg A) : Has CX0 P w K mg base "_law_head" 3 ["_law_bag_here", "_law_kind", "_law_version"] sp__law_head := by
  refine has0 (k := 2) T.d__law_head sc__law_head (fun _ _ _ _ _ _ us hl => match us, hl with | [_, _, _], _ => rfl) (fun vs H Q E h => ?_) (fun f cdv A0 outer ss H vs Q XE hr h => ?_)
  · obtain ⟨p, n, kd, v, rfl, _⟩ := h
    rfl
  · obtain ⟨p, n, kd, v, rfl, hb, nn, v0, v1, k⟩ := h
    refine ⟨_, ((pss_cons (ps_if (pt_cmpR op_eq (pv 1) pe_str (nomark _)) (pss_cons (ps_set (i := 3) sc__law_head.nd rfl (.inl rfl) (pe_lst (pa_cons (pe_lst (pa_cons pe_str (pa_cons pe_str (pa_cons pe_str (pa_cons pe_str (pa_cons pe_str (pa_cons pe_str pa_nil))))))) (pa_cons (pe_lst (pa_cons pe_str (pa_cons pe_str (pa_cons pe_str (pa_cons pe_str (pa_cons pe_str pa_nil)))))) pa_nil))))
      (pss_one (ps_ret (pe_op op_add_str (pe_op op_add_str (pe_op op_add_str (pe_op op_add_str (pe_op op_add_str (pe_fn (h__law_pick T) (hr.mono (by decide)) paN (pa_cons (pv 0) (pa_cons (pe_ix ix_list (pv 3) pe_int (fun _ _ => rfl)) pa_nil))) pe_str) (pe_fn (h__law_pick T) (hr.mono (by decide)) paN (pa_cons (pv 0) (pa_cons (pe_ix ix_list (pv 3) pe_int (fun _ _ => rfl)) pa_nil)))) pe_str) (pe_callTy call_str_int (by rfl) T.b_str (by decide +kernel) (pa_cons (pv 2) pa_nil))) pe_str)))) pss_nil)
      (pss_cons (ps_set (i := 4) sc__law_head.nd rfl (.inl rfl) (pe_fn (h__law_pick T) (hr.mono (by decide)) paN (pa_cons (pv 0) (pa_cons (pe_lst (pa_cons pe_int (pa_cons pe_int (pa_cons pe_int (pa_cons pe_int (pa_cons pe_int (pa_cons pe_int (pa_cons pe_int (pa_cons pe_int (pa_cons pe_int (pa_cons pe_int (pa_cons pe_int pa_nil)))))))))))) pa_nil))))
      (pss_one (ps_ret (pe_op op_add_str (pe_op op_add_str (pe_op op_add_str (pe_op op_add_str (pe_op op_add_str (pe_op op_add_str pe_str (pe_callTy call_str_int (by rfl) T.b_str (by decide +kernel) (pa_cons (pv 2) pa_nil))) pe_str) (pe_callTy call_str_int (by rfl) T.b_str (by decide +kernel) (pa_cons (pv 4) pa_nil))) pe_str) (pe_fn (h__law_pick T) (hr.mono (by decide)) paN (pa_cons (pv 0) (pa_cons (pe_lst (pa_cons pe_str (pa_cons pe_str (pa_cons pe_str (pa_cons pe_str pa_nil))))) pa_nil)))) pe_str)))))), ?_⟩
    have B0 := Bg.here hb
    obtain ⟨vl, vk⟩ := str_int v0 (by omega : v ≤ 600)
    refine ⟨_, rfl, rfl, _, rfl, ?_⟩
    refine ite2 (fun c1 => ?_) (fun c1 => ?_)
    · refine ⟨by show 6 ≤ sizeLine; decide, fun la hla => ⟨by show 5 ≤ sizeLine; decide, fun lb hlb => ⟨by show 2 ≤ sizeLine; decide, fun lc hlc => ?_⟩⟩⟩
      have ea : (upd H la (.lst [.str "GET", .str "POST", .str "HEAD", .str "CONNECT", .str "get", .str "!"])) la = some (.lst ((["GET", "POST", "HEAD", "CONNECT", "get", "!"] : List Str).map V.str)) := upd_same
      have e1 := Ex.new (o := .lst [.str "GET", .str "POST", .str "HEAD", .str "CONNECT", .str "get", .str "!"]) hla
      generalize upd H la (.lst [.str "GET", .str "POST", .str "HEAD", .str "CONNECT", .str "get", .str "!"]) = Ha at *
      have n_ea := B0.1.ne hla
      have Ba := B0.ex e1
      have eb : (upd Ha lb (.lst [.str "/", .str "/a?b=1", .str "*", .str "x:1", .str "HTTP/1.1"])) lb = some (.lst ((["/", "/a?b=1", "*", "x:1", "HTTP/1.1"] : List Str).map V.str)) := upd_same
      have e2 := Ex.new (o := .lst [.str "/", .str "/a?b=1", .str "*", .str "x:1", .str "HTTP/1.1"]) hlb
      generalize upd Ha lb (.lst [.str "/", .str "/a?b=1", .str "*", .str "x:1", .str "HTTP/1.1"]) = Hb at *
      have n_eb := Ba.1.ne hlb
      have Bb := Ba.ex e2
      have ec : (upd Hb lc (.lst [.ref la, .ref lb])) lc = some (.lst [.ref la, .ref lb]) := upd_same
      have e3 := Ex.new (o := .lst [.ref la, .ref lb]) hlc
      generalize upd Hb lc (.lst [.ref la, .ref lb]) = Hc at *
      have n_ec := Bb.1.ne hlc
      have B1 := Bb.ex e3
      have ea := e3 _ _ (e2 _ _ ea)
      have eb := e3 _ _ eb
      refine ⟨_, rfl, _, rfl, lc, _, _, _, rfl, rfl, SqL.of ec, at0 _ _, p, _, _, _, rfl, B1.1, by omega, n_ea, ea, (fun z => by cases z), by show 6 ≤ 1000; decide, fun x2 H2 hx2 bg2 => ?_⟩
      have B2 := B1.tr bg2
      have eb := bg2.at eb n_eb
      have ec := bg2.at ec n_ec
      obtain ⟨z1, rfl, z1m, z1k⟩ := pick_str (n := 7) (by decide +kernel) hx2
      have s1 : TxOk 1 " " := TxOk.c (by decide +kernel)
      have s2 : TxOk 8 " HTTP/1." := TxOk.c (by decide +kernel)
      have s3 : TxOk 1 "\n" := TxOk.c (by decide +kernel)
      refine ⟨_, _, rfl, rfl, z1k.sum s1 (by decide), _, rfl, _, rfl, lc, _, _, _, rfl, rfl, SqL.of ec, at1 _ _ _, p, _, _, _, rfl, B2.1, by omega, n_eb, eb, (fun z => by cases z), by show 5 ≤ 1000; decide, fun x3 H3 hx3 bg3 => ?_⟩
      have B3 := B2.tr bg3
      obtain ⟨z2, rfl, z2m, z2k⟩ := pick_str (n := 8) (by decide +kernel) hx3
      have t1 := z1k.app s1
      have t2 := t1.app z2k
      have t3 := t2.app s2
      have t4 := t3.app vk
      have t5 := t4.app s3
      refine ⟨_, _, rfl, rfl, t1.sum z2k (by decide), _, _, rfl, rfl, t2.sum s2 (by decide), _, rfl, _, rfl, vl, _, _, rfl, rfl, t3.sum vk (by decide), _, _, rfl, rfl, t4.sum s3 (by decide), ?_⟩
      exact k _ _ (t5.le (by decide)) (B3.le (by omega))
    · refine ⟨_, rfl, by show 11 ≤ sizeLine; decide, fun l1 hl1 => ⟨p, l1, _, _, rfl, B0.1.ex (Ex.new hl1), by omega, B0.1.ne hl1, upd_same, (fun z => by cases z), by show 11 ≤ 1000; decide, fun x1 H1 hx1 bg1 => ?_⟩⟩
      have B1 := (B0.ex (Ex.new hl1)).tr bg1
      clear bg1 B0
      obtain ⟨st, rfl, stm, st0, st1⟩ := pick_int (l := [200,200,404,500,204,304,100,199,101,301,599]) (lo := 100) (hi := 599) (by decide) hx1
      obtain ⟨sl, sk⟩ := str_int (by omega : 0 ≤ st) (by omega : st ≤ 600)
      have s1 : TxOk 1 " " := TxOk.c (by decide +kernel)
      have s2 : TxOk 7 "HTTP/1." := TxOk.c (by decide +kernel)
      have s3 : TxOk 1 "\n" := TxOk.c (by decide +kernel)
      have t1 := s2.app vk
      have t2 := t1.app s1
      have t3 := t2.app sk
      have t4 := t3.app s1
      refine ⟨_, rfl, _, rfl, vl, _, _, rfl, rfl, s2.sum vk (by decide), _, _, rfl, rfl, t1.sum s1 (by decide), _, rfl, _, rfl, sl, _, _, rfl, rfl, t2.sum sk (by decide), _, _, rfl, rfl, t3.sum s1 (by decide), ?_⟩
      refine ⟨_, rfl, by show 4 ≤ sizeLine; decide, fun l2 hl2 => ⟨p, l2, _, _, rfl, B1.1.ex (Ex.new hl2), by omega, B1.1.ne hl2, upd_same, (fun z => by cases z), by show 4 ≤ 1000; decide, fun x2 H2 hx2 bg2 => ?_⟩⟩
      have B2 := (B1.ex (Ex.new hl2)).tr bg2
      clear bg2 B1
      obtain ⟨z2, rfl, z2m, z2k⟩ := pick_str (ss := ["", "OK", "Not  Found ", "200"]) (n := 11) (by decide +kernel) hx2
      have t5 := t4.app z2k
      have t6 := t5.app s3
      refine ⟨_, _, rfl, rfl, t4.sum z2k (by decide), _, _, rfl, rfl, t5.sum s3 (by decide), ?_⟩
      exact k _ _ (t6.le (by decide)) (B2.le (by omega))
def sp__law_lines_of : Sp := fun vs H Q _ => ∃ (p : Addr) (n : Nat) (m : Int), vs = [.ref p, .int m] ∧ BgAt H p n ∧ n ≤ 500000 ∧ 0 ≤ m ∧ m ≤ 2 ∧ ∀ z H', TxOk 200 z → Bg p (n + 20) H H' → Q (.str z) H'
abbrev N__law_lines_of : List Str := ["_law_bag_here", "_law_many", "_law_names", "_law_values", "_law_found", "_law_turn", "_law_value"]
theorem sc__law_lines_of : FnScope N__law_lines_of ["_law_bag_here", "_law_many"] (defScope s__law_lines_of) := ⟨rfl, rfl, rfl, by decide +kernel, rfl, by decide +kernel, by decide +kernel⟩
theorem h__law_lines_of (T : Txt K w mg A) : Has CX0 P w K mg base "_law_lines_of" 3 ["_law_bag_here", "_law_many"] sp__law_lines_of := by
  refine has0 (k := 2) T.d__law_lines_of sc__law_lines_of (fun _ _ _ _ _ _ us hl => match us, hl with | [_, _], _ => rfl) (fun vs H Q E h => ?_) (fun f cdv A0 outer ss H vs Q XE hr h => ?_)
  · obtain ⟨p, n, m, rfl, _⟩ := h
    rfl
  · obtain ⟨p, n, m, rfl, hb, nn, m0, m1, k⟩ := h
    refine ⟨_, ((pss_cons (ps_set (i := 2) sc__law_lines_of.nd rfl (.inl rfl) (pe_lst (pa_cons pe_str (pa_cons pe_str (pa_cons pe_str (pa_cons pe_str (pa_cons pe_str (pa_cons pe_str pa_nil))))))))
      (pss_cons (ps_set (i := 3) sc__law_lines_of.nd rfl (.inl rfl) (pe_lst (pa_cons pe_str (pa_cons pe_str (pa_cons pe_str (pa_cons pe_str (pa_cons pe_str (pa_cons pe_str pa_nil))))))))
      (pss_cons (ps_set (i := 4) sc__law_lines_of.nd rfl (.inl rfl) pe_str)
      (pss_cons (ps_for PassesOwn.never rfl (pi_range1 (by rfl) T.b_range (pa_cons (pe_fn (h__law_take T) (hr.mono (by decide)) paN (pa_cons (pv 0) (pa_cons (pe_op op_add (pv 1) pe_int) pa_nil))) pa_nil)) (pg_name (i := 5) sc__law_lines_of.nd rfl (.inl rfl))
      (pss_cons (ps_set (i := 6) sc__law_lines_of.nd rfl (.inl rfl) (pe_op op_add_str (pe_op op_add_str (pe_fn (h__law_pick T) (hr.mono (by decide)) paN (pa_cons (pv 0) (pa_cons (pe_lst (pa_cons pe_str (pa_cons pe_str (pa_cons pe_str pa_nil)))) pa_nil))) (pe_fn (h__law_pick T) (hr.mono (by decide)) paN (pa_cons (pv 0) (pa_cons (pv 3) pa_nil)))) (pe_fn (h__law_pick T) (hr.mono (by decide)) paN (pa_cons (pv 0) (pa_cons (pe_lst (pa_cons pe_str (pa_cons pe_str pa_nil))) pa_nil)))))
      (pss_one (ps_set (i := 4) sc__law_lines_of.nd rfl (.inl rfl) (pe_op op_add_str (pe_op op_add_str (pe_op op_add_str (pe_op op_add_str (pv 4) (pe_fn (h__law_pick T) (hr.mono (by decide)) paN (pa_cons (pv 0) (pa_cons (pv 2) pa_nil)))) pe_str) (pv 6)) pe_str)))))
      (pss_one (ps_ret (pv 4)))))))), ?_⟩
    have B0 := Bg.here hb
    refine ⟨by show 6 ≤ sizeLine; decide, fun la hla => ⟨by show 6 ≤ sizeLine; decide, fun lb hlb => ?_⟩⟩
    have ea : (upd H la (.lst [.str "Host", .str "a", .str "X-Content-Length", .str "te", .str "!", .str "Trailer"])) la = some (.lst ((["Host", "a", "X-Content-Length", "te", "!", "Trailer"] : List Str).map V.str)) := upd_same
    have e1 := Ex.new (o := .lst [.str "Host", .str "a", .str "X-Content-Length", .str "te", .str "!", .str "Trailer"]) hla
    generalize upd H la (.lst [.str "Host", .str "a", .str "X-Content-Length", .str "te", .str "!", .str "Trailer"]) = Ha at *
    have n_ea := B0.1.ne hla
    have Ba := B0.ex e1
    have eb : (upd Ha lb (.lst [.str "", .str "x", .str "a, b", .str "chunked", .str "5", .str "q:0  ; z"])) lb = some (.lst ((["", "x", "a, b", "chunked", "5", "q:0  ; z"] : List Str).map V.str)) := upd_same
    have e2 := Ex.new (o := .lst [.str "", .str "x", .str "a, b", .str "chunked", .str "5", .str "q:0  ; z"]) hlb
    generalize upd Ha lb (.lst [.str "", .str "x", .str "a, b", .str "chunked", .str "5", .str "q:0  ; z"]) = Hb at *
    have n_eb := Ba.1.ne hlb
    have B1 := Ba.ex e2
    have ea := e2 _ _ ea
    refine ⟨_, rfl, _, rfl, _, _, rfl, rfl, p, _, _, rfl, B1.1, by omega, by omega, by omega, fun t H2 t0 t1 bg2 => ?_⟩
    have B2 := B1.tr bg2
    have ea := bg2.at ea n_ea
    have eb := bg2.at eb n_eb
    refine ⟨_, rfl, by omega, by omega, for_range (lo := 0) (n := t.toNat) (fun i σ H' => ∃ v5 v6 z, σ = [some (.ref p), some (.int m), some (.ref la), some (.ref lb), some (.str z), v5, v6] ∧ TxOk (60 * i) z ∧ Bg p (n + 1 + 4 * i) H H' ∧
      H' la = some (.lst ((["Host", "a", "X-Content-Length", "te", "!", "Trailer"] : List Str).map V.str)) ∧ H' lb = some (.lst ((["", "x", "a, b", "chunked", "5", "q:0  ; z"] : List Str).map V.str))) ⟨_, _, "", rfl, TxOk.c (by decide +kernel), B2, ea, eb⟩ ?_ ?_⟩
    · rintro i σ H3 hi ⟨v5, v6, z, rfl, zk, B3, ea, eb⟩
      have hi3 : i < 3 := by omega
      refine ⟨_, rfl, by show 3 ≤ sizeLine; decide, fun l4 hl4 => ⟨p, l4, _, _, rfl, B3.1.ex (Ex.new hl4), by omega, B3.1.ne hl4, upd_same, (fun z => by cases z), by show 3 ≤ 1000; decide, fun x4 H4 hx4 bg4 => ?_⟩⟩
      have B4 := (B3.ex (Ex.new hl4)).tr bg4
      have ea := bg4.at (Ex.new hl4 _ _ ea) n_ea
      have eb := bg4.at (Ex.new hl4 _ _ eb) n_eb
      clear bg4 B3
      obtain ⟨za, rfl, zam, zak⟩ := pick_str (ss := ["", " ", "  "]) (n := 2) (by decide +kernel) hx4
      refine ⟨_, rfl, _, rfl, p, _, _, _, rfl, B4.1, by omega, n_eb, eb, (fun z => by cases z), by show 6 ≤ 1000; decide, fun x5 H5 hx5 bg5 => ?_⟩
      have B5 := B4.tr bg5
      have eb := bg5.at eb n_eb
      have ea := bg5.at ea n_ea
      clear bg5 B4
      obtain ⟨zb, rfl, zbm, zbk⟩ := pick_str (ss := ["", "x", "a, b", "chunked", "5", "q:0  ; z"]) (n := 8) (by decide +kernel) hx5
      refine ⟨_, _, rfl, rfl, zak.sum zbk (by decide), ?_⟩
      refine ⟨_, rfl, by show 2 ≤ sizeLine; decide, fun l6 hl6 => ⟨p, l6, _, _, rfl, B5.1.ex (Ex.new hl6), by omega, B5.1.ne hl6, upd_same, (fun z => by cases z), by show 2 ≤ 1000; decide, fun x6 H6 hx6 bg6 => ?_⟩⟩
      have B6 := (B5.ex (Ex.new hl6)).tr bg6
      have ea := bg6.at (Ex.new hl6 _ _ ea) n_ea
      have eb := bg6.at (Ex.new hl6 _ _ eb) n_eb
      clear bg6 B5
      obtain ⟨zc, rfl, zcm, zck⟩ := pick_str (ss := ["", " "]) (n := 1) (by decide +kernel) hx6
      have t1 := zak.app zbk
      have t2 := t1.app zck
      refine ⟨_, _, rfl, rfl, t1.sum zck (by decide), _, rfl, ?_⟩
      refine ⟨_, rfl, _, rfl, p, _, _, _, rfl, B6.1, by omega, n_ea, ea, (fun z => by cases z), by show 6 ≤ 1000; decide, fun x7 H7 hx7 bg7 => ?_⟩
      have B7 := B6.tr bg7
      have ea := bg7.at ea n_ea
      have eb := bg7.at eb n_eb
      clear bg7 B6
      obtain ⟨zd, rfl, zdm, zdk⟩ := pick_str (ss := ["Host", "a", "X-Content-Length", "te", "!", "Trailer"]) (n := 16) (by decide +kernel) hx7
      have s1 : TxOk 1 ":" := TxOk.c (by decide +kernel)
      have s3 : TxOk 1 "\n" := TxOk.c (by decide +kernel)
      have t3 := zk.app zdk
      have t4 := t3.app s1
      have t5 := t4.app t2
      have t6 := t5.app s3
      refine ⟨_, _, rfl, rfl, zk.sum zdk (by omega), _, _, rfl, rfl, t3.sum s1 (by omega), _, rfl, _, _, rfl, rfl, t4.sum t2 (by omega), _, _, rfl, rfl, t5.sum s3 (by omega), ?_⟩
      exact ⟨_, _, _, rfl, t6.le (by omega), B7.le (by omega), ea, eb⟩
    · rintro σ H3 ⟨v5, v6, z, rfl, zk, B3, ea, eb⟩
      exact ⟨_, rfl, k _ _ (zk.le (by omega)) (B3.le (by omega))⟩
end
end K32

namespace K32
open PySem PySem.Spec PyProof.Rows L2
/-! ### octets that are drawn -/
def OsOk (n : Nat) (os : List Int) : Prop := os.length ≤ n ∧ ∀ o ∈ os, 0 ≤ o ∧ o ≤ 255
theorem OsOk.app {n m : Nat} {x y : List Int} (a : OsOk n x) (b : OsOk m y) : OsOk (n + m) (x ++ y) := by
  refine ⟨by rw [List.length_append]; have := a.1; have := b.1; omega, fun o ho => ?_⟩
  rcases List.mem_append.mp ho with h | h
  · exact a.2 o h
  · exact b.2 o h
theorem OsOk.le {n m : Nat} {x : List Int} (a : OsOk n x) (h : n ≤ m) : OsOk m x := ⟨Nat.le_trans a.1 h, a.2⟩
theorem OsOk.sum {n m : Nat} {x y : List Int} (a : OsOk n x) (b : OsOk m y) (h : n + m ≤ 100000) : (x.map V.int).length + (y.map V.int).length ≤ sizeLine := by
  rw [List.length_map, List.length_map]
  have := a.1
  have := b.1
  exact small (by omega)
theorem comp_draw {g : TG} {tt : TT} {te : TE} {vs : List Nat} {σ : St} {H1 : Hp} {D p : Addr} {k m : Nat} {Qd : Hp → Prop} (hD : H1 D = none) (hb : BgAt H1 p m) (hk : k ≤ 1000) (σx : V → St)
    (hg : ∀ x H' (R : St → Hp → Prop), R (σx x) H' → g x (wipe σ vs) H' R) (hw : ∀ x, wipe (σx x) vs = wipe σ vs) (ht : ∀ x H' (R : Bool → Hp → Prop), R true H' → tt (σx x) H' R)
    (he : ∀ x i H' (R : VK), i < k → BgAt H' p (m + i) → (∀ o H2, 0 ≤ o → o < 256 → Bg p (m + i + 1) H' H2 → R (.int o) H2) → te (σx x) H' R)
    (kd : ∀ H' os, Bg p (m + k) H1 H' → H' D = some (.lst (os.map V.int)) → OsOk k os → Qd H') :
    ∃ W : Nat → Nat → Hp → Prop, (∃ m, W 0 m (upd H1 D (.lst []))) ∧ ∀ i m H, W i m H →
      ((Itr 0 k).stop i H ∧ Qd H) ∨ ((Itr 0 k).go i H ∧ ∃ Nx : Hp → Prop, (∀ H', Nx H' → ∃ m', m' < m ∧ W (i + 1) m' H') ∧ ∀ x H', (Itr 0 k).yld i H x H' → g x (wipe σ vs) H' fun σ2 H2 => wipe σ2 vs = wipe σ vs ∧ tt σ2 H2 fun b H3 =>
        if b = true then te σ2 H3 fun y H4 => ∃ acc, H4 D = some (.lst acc) ∧ acc.length < sizeLine ∧ Nx (upd H4 D (.lst (acc ++ [y]))) else Nx H3) := by
  have Dp : D ≠ p := hb.ne hD
  refine lc_it walk_range (fun i H' => Bg p (m + i) H1 H' ∧ ∃ os : List Int, H' D = some (.lst (os.map V.int)) ∧ OsOk i os) ⟨(Bg.here hb).upd hD Dp, [], upd_same, Nat.le_refl _, fun o ho => by cases ho⟩ (fun _ _ _ _ => trivial) ?_ ?_
  · rintro i x H H' hi ⟨B, os, ho, hos⟩ ⟨e, ex⟩
    have e2 : H' = H := e
    subst e2
    refine hg x _ _ ⟨hw x, ht x _ _ ?_⟩
    rw [if_pos rfl]
    refine he x i _ _ hi B.1 fun o H2 o0 o1 b2 => ⟨os.map V.int, b2.at ho Dp, ?_, ((B.tr b2).upd hD Dp), os ++ [o], ?_, ?_⟩
    · rw [List.length_map]
      have := hos.1
      exact Nat.lt_of_le_of_lt (by omega : os.length ≤ 1000) (by decide)
    · rw [upd_same, List.map_append]
      rfl
    · exact hos.app ⟨Nat.le_refl _, fun z hz => by rw [List.mem_singleton.mp hz]; omega⟩
  · rintro H' ⟨B, os, ho, hos⟩
    exact kd H' os B ho hos
theorem hex_at : ∀ j : Nat, j < 16 → ∃ c, (("0123456789abCDeF" : Str)).cps.toList[j]? = some c ∧ txb 1 ⟨#[c]⟩ = true := by
  intro j hj
  have : ∀ j : Nat, j < 16 → (match (("0123456789abCDeF" : Str)).cps.toList[j]? with | some c => txb 1 ⟨#[c]⟩ | none => false) = true := by decide +kernel
  have h := this j hj
  split at h
  · rename_i c e
    exact ⟨c, e, h⟩
  · cases h
section
variable {P : Program} {w : World} {K : PySem.W.Frag} {mg : Str → Option Value} {base : Heap} {A : Adr}
/-! ### _law_framing, _law_chunked -/
def sp__law_framing : Sp := fun vs H Q _ => ∃ (p : Addr) (n : Nat), vs = [.ref p] ∧ BgAt H p n ∧ n ≤ 500000 ∧ ∀ q z wd i H', H' q = some (.lst [.str z, .str wd, .int i]) → q ≠ p → TxOk 100 z → 0 ≤ i → i ≤ 30 → Bg p (n + 20) H H' → Q (.ref q) H'
abbrev N__law_framing : List Str := ["_law_bag_here", "_law_size", "_law_name", "_law_codes", "_law_code", "_law_way", "_law_text", "_law_some"]
theorem sc__law_framing : FnScope N__law_framing ["_law_bag_here"] (defScope s__law_framing) := ⟨rfl, rfl, rfl, by decide +kernel, rfl, by decide +kernel, by decide +kernel⟩
theorem h__law_framing (T : Txt K w mg A) : Has CX0 P w K mg base "_law_framing" 3 ["_law_bag_here"] sp__law_framing := by
  refine has0 (k := 2) T.d__law_framing sc__law_framing (fun _ _ _ _ _ _ us hl => match us, hl with | [_], _ => rfl) (fun vs H Q E h => ?_) (fun f cdv A0 outer ss H vs Q XE hr h => ?_)
  · obtain ⟨p, n, rfl, _⟩ := h
    rfl
  · obtain ⟨p, n, rfl, hb, nn, k⟩ := h
    refine ⟨_, ((pss_cons (ps_set (i := 1) sc__law_framing.nd rfl (.inl rfl) (pe_fn (h__law_pick T) (hr.mono (by decide)) paN (pa_cons (pv 0) (pa_cons (pe_lst (pa_cons pe_int (pa_cons pe_int (pa_cons pe_int (pa_cons pe_int (pa_cons pe_int (pa_cons pe_int pa_nil))))))) pa_nil))))
      (pss_cons (ps_set (i := 2) sc__law_framing.nd rfl (.inl rfl) (pe_fn (h__law_pick T) (hr.mono (by decide)) paN (pa_cons (pv 0) (pa_cons (pe_lst (pa_cons pe_str (pa_cons pe_str (pa_cons pe_str pa_nil)))) pa_nil))))
      (pss_cons (ps_set (i := 3) sc__law_framing.nd rfl (.inl rfl) (pe_lst (pa_cons pe_str (pa_cons pe_str (pa_cons pe_str pa_nil)))))
      (pss_cons (ps_set (i := 4) sc__law_framing.nd rfl (.inl rfl) (pe_fn (h__law_pick T) (hr.mono (by decide)) paN (pa_cons (pv 0) (pa_cons (pv 3) pa_nil))))
      (pss_cons (ps_par (i := 5) (j := 6) (by rfl) sc__law_framing.nd rfl rfl (by decide) rfl rfl (pa_cons (pe_fn (h__law_take T) (hr.mono (by decide)) paN (pa_cons (pv 0) (pa_cons pe_int pa_nil))) (pa_cons (pe_op op_add_str (pe_op op_add_str (pe_op op_add_str (pe_op op_add_str (pv 2) pe_str) (pe_fn (h__law_pick T) (hr.mono (by decide)) paN (pa_cons (pv 0) (pa_cons (pe_lst (pa_cons pe_str (pa_cons pe_str (pa_cons pe_str pa_nil)))) pa_nil)))) (pe_callTy call_str_int (by rfl) T.b_str (by decide +kernel) (pa_cons (pv 1) pa_nil))) pe_str) pa_nil)) (by rfl))
      (pss_cons (ps_if (pt_cmpR op_lt (pv 5) pe_int (nomark _)) (pss_one (ps_ret (pe_lst (pa_cons (pv 6) (pa_cons pe_str (pa_cons (pv 1) pa_nil)))))) pss_nil)
      (pss_cons (ps_if (pt_cmpR op_lt (pv 5) pe_int (nomark _)) (pss_one (ps_ret (pe_lst (pa_cons (pv 4) (pa_cons pe_str (pa_cons pe_int pa_nil)))))) pss_nil)
      (pss_cons (ps_if (pt_cmpR op_eq (pv 5) pe_int (nomark _)) (pss_one (ps_ret (pe_lst (pa_cons (pe_op op_add_str (pe_op op_add_str (pe_op op_add_str (pe_op op_add_str (pe_op op_add_str (pv 2) pe_str) (pe_callTy call_str_int (by rfl) T.b_str (by decide +kernel) (pa_cons (pv 1) pa_nil))) pe_str) (pe_callTy call_str_int (by rfl) T.b_str (by decide +kernel) (pa_cons (pv 1) pa_nil))) pe_str) (pa_cons pe_str (pa_cons (pv 1) pa_nil)))))) pss_nil)
      (pss_cons (ps_if (pt_cmpR op_eq (pv 5) pe_int (nomark _)) (pss_one (ps_ret (pe_fn (h__law_pick T) (hr.mono (by decide)) paN (pa_cons (pv 0) (pa_cons (pe_lst (pa_cons (pe_lst (pa_cons (pe_op op_add_str (pv 6) (pv 4)) (pa_cons pe_str (pa_cons pe_int pa_nil)))) (pa_cons (pe_lst (pa_cons (pe_op op_add_str (pv 4) (pv 6)) (pa_cons pe_str (pa_cons pe_int pa_nil)))) (pa_cons (pe_lst (pa_cons (pe_op op_add_str (pv 6) (pv 6)) (pa_cons pe_str (pa_cons (pv 1) pa_nil)))) pa_nil)))) pa_nil))))) pss_nil)
      (pss_cons (ps_if (pt_cmpR op_eq (pv 5) pe_int (nomark _)) (pss_cons (ps_set (i := 7) sc__law_framing.nd rfl (.inl rfl) (pe_lst (pa_cons pe_str (pa_cons pe_str (pa_cons pe_str (pa_cons pe_str pa_nil))))))
      (pss_cons (ps_set (i := 7) sc__law_framing.nd rfl (.inl rfl) (pe_op op_cat (pv 7) (pe_lst (pa_cons pe_str (pa_cons pe_str (pa_cons pe_str pa_nil))))))
      (pss_one (ps_ret (pe_lst (pa_cons (pe_fn (h__law_pick T) (hr.mono (by decide)) paN (pa_cons (pv 0) (pa_cons (pv 7) pa_nil))) (pa_cons pe_str (pa_cons pe_int pa_nil)))))))) pss_nil)
      (pss_one (ps_ret (pe_lst (pa_cons pe_str (pa_cons pe_str (pa_cons pe_int pa_nil))))))))))))))))), ?_⟩
    have B0 := Bg.here hb
    have fin : ∀ {Hx : Hp} {m : Nat} {z wd : Str} {i : Int}, Bg p m H Hx → m ≤ n + 20 → TxOk 100 z → 0 ≤ i → i ≤ 30 → ∀ l, Hx l = none → Q (.ref l) (upd Hx l (.lst [.str z, .str wd, .int i])) := fun {Hx m z wd i} B hm hz i0 i1 l hl => k l z wd i _ upd_same (B.1.ne hl) hz i0 i1 ((B.ex (Ex.new hl)).le hm)
    refine ⟨_, rfl, by show 6 ≤ sizeLine; decide, fun l1 hl1 => ⟨p, l1, _, _, rfl, B0.1.ex (Ex.new hl1), by omega, B0.1.ne hl1, upd_same, (fun z => by cases z), by show 6 ≤ 1000; decide, fun x1 H1 hx1 bg1 => ?_⟩⟩
    have B1 := (B0.ex (Ex.new hl1)).tr bg1
    clear bg1 B0
    obtain ⟨sz, rfl, szm, sz0, sz1⟩ := pick_int (l := [0,1,2,5,9,30]) (lo := 0) (hi := 30) (by decide) hx1
    refine ⟨_, rfl, by show 3 ≤ sizeLine; decide, fun l2 hl2 => ⟨p, l2, _, _, rfl, B1.1.ex (Ex.new hl2), by omega, B1.1.ne hl2, upd_same, (fun z => by cases z), by show 3 ≤ 1000; decide, fun x2 H2 hx2 bg2 => ?_⟩⟩
    have B2 := (B1.ex (Ex.new hl2)).tr bg2
    clear bg2 B1
    obtain ⟨nm, rfl, nmm, nmk⟩ := pick_str (ss := ["Content-Length", "content-length", "CONTENT-length"]) (n := 14) (by decide +kernel) hx2
    refine ⟨by show 3 ≤ sizeLine; decide, fun la hla => ?_⟩
    have ea : (upd H2 la (.lst [.str "Transfer-Encoding: chunked\n", .str "transfer-encoding:CHUNKED\n", .str "TRANSFER-encoding: ,Chunked, \n"])) la = some (.lst ((["Transfer-Encoding: chunked\n", "transfer-encoding:CHUNKED\n", "TRANSFER-encoding: ,Chunked, \n"] : List Str).map V.str)) := upd_same
    have e1 := Ex.new (o := .lst [.str "Transfer-Encoding: chunked\n", .str "transfer-encoding:CHUNKED\n", .str "TRANSFER-encoding: ,Chunked, \n"]) hla
    generalize upd H2 la (.lst [.str "Transfer-Encoding: chunked\n", .str "transfer-encoding:CHUNKED\n", .str "TRANSFER-encoding: ,Chunked, \n"]) = Ha at *
    have n_ea := B2.1.ne hla
    have B3 := B2.ex e1
    refine ⟨_, rfl, _, rfl, p, _, _, _, rfl, B3.1, by omega, n_ea, ea, (fun z => by cases z), by show 3 ≤ 1000; decide, fun x4 H4 hx4 bg4 => ?_⟩
    have B4 := B3.tr bg4
    have ea := bg4.at ea n_ea
    clear bg4 B3
    obtain ⟨cd, rfl, cdm, cdk⟩ := pick_str (ss := ["Transfer-Encoding: chunked\n", "transfer-encoding:CHUNKED\n", "TRANSFER-encoding: ,Chunked, \n"]) (n := 33) (by decide +kernel) hx4
    obtain ⟨sl, sk⟩ := str_int (by omega : 0 ≤ sz) (by omega : sz ≤ 600)
    refine ⟨_, rfl, p, _, 14, rfl, B4.1, by omega, by decide, by decide, fun t5 H5 t50 t51 bg5 => ?_⟩
    have B5 := B4.tr bg5
    clear bg5 B4
    have s1 : TxOk 2 ": " := TxOk.c (by decide +kernel)
    have s2 : TxOk 1 ":" := TxOk.c (by decide +kernel)
    have s3 : TxOk 1 "\n" := TxOk.c (by decide +kernel)
    have s4 : TxOk 3 " ,0" := TxOk.c (by decide +kernel)
    refine ⟨_, rfl, _, _, rfl, rfl, nmk.sum s1 (by decide), ?_⟩
    refine ⟨_, rfl, by show 3 ≤ sizeLine; decide, fun l6 hl6 => ⟨p, l6, _, _, rfl, B5.1.ex (Ex.new hl6), by omega, B5.1.ne hl6, upd_same, (fun z => by cases z), by show 3 ≤ 1000; decide, fun x6 H6 hx6 bg6 => ?_⟩⟩
    have B6 := (B5.ex (Ex.new hl6)).tr bg6
    clear bg6 B5
    obtain ⟨zr, rfl, zrm, zrk⟩ := pick_str (ss := ["", "", "0"]) (n := 1) (by decide +kernel) hx6
    have t1 := nmk.app s1
    have t2 := t1.app zrk
    have t3 := t2.app sk
    have t4 := t3.app s3
    refine ⟨_, _, rfl, rfl, t1.sum zrk (by decide), _, rfl, _, rfl, sl, _, _, rfl, rfl, t2.sum sk (by decide), _, _, rfl, rfl, t3.sum s3 (by decide), _, _, rfl, ?_⟩
    have tk := t4
    generalize nm ++ ": " ++ zr ++ toString sz ++ "\n" = tx at *
    refine ⟨_, rfl, _, _, rfl, rfl, _, rfl, ?_⟩
    refine ite2 (fun c1 => ?_) (fun c1 => ?_)
    · exact ⟨_, rfl, _, rfl, by show 3 ≤ sizeLine; decide, fin B6 (by omega) (tk.le (by decide)) (by omega) (by omega)⟩
    refine ⟨_, rfl, _, _, rfl, rfl, _, rfl, ?_⟩
    refine ite2 (fun c2 => ?_) (fun c2 => ?_)
    · exact ⟨_, rfl, by show 3 ≤ sizeLine; decide, fin B6 (by omega) (cdk.le (by decide)) (by omega) (by omega)⟩
    refine ⟨_, rfl, rfl, _, rfl, ?_⟩
    refine ite2 (fun c3 => ?_) (fun c3 => ?_)
    · have u1 := nmk.app s2
      have u2 := u1.app sk
      have u3 := u2.app s4
      have u4 := u3.app sk
      have u5 := u4.app s3
      exact ⟨_, rfl, _, _, rfl, rfl, nmk.sum s2 (by decide), _, rfl, _, rfl, sl, _, _, rfl, rfl, u1.sum sk (by decide), _, _, rfl, rfl, u2.sum s4 (by decide), _, rfl, _, rfl, sl, _, _, rfl, rfl, u3.sum sk (by decide), _, _, rfl, rfl, u4.sum s3 (by decide), _, rfl, by show 3 ≤ sizeLine; decide, fin B6 (by omega) (u5.le (by decide)) (by omega) (by omega)⟩
    refine ⟨_, rfl, rfl, _, rfl, ?_⟩
    refine ite2 (fun c4 => ?_) (fun c4 => ?_)
    · refine ⟨_, rfl, _, rfl, _, rfl, _, _, rfl, rfl, tk.sum cdk (by decide), by show 3 ≤ sizeLine; decide, fun l1 h1 => ⟨_, rfl, _, rfl, _, _, rfl, rfl, cdk.sum tk (by decide), by show 3 ≤ sizeLine; decide, fun l2 h2 => ⟨_, rfl, _, rfl, _, _, rfl, rfl, tk.sum tk (by decide), _, rfl, by show 3 ≤ sizeLine; decide, fun l3 h3 => ⟨by show 3 ≤ sizeLine; decide, fun l4 h4 => ?_⟩⟩⟩⟩
      have n1 := B6.1.ne h1
      have C1 := B6.ex (Ex.new (o := .lst [.str (tx ++ cd), .str "chunks", .int 0]) h1)
      have f1 : (upd H6 l1 (.lst [.str (tx ++ cd), .str "chunks", .int 0])) l1 = some (.lst [.str (tx ++ cd), .str "chunks", .int 0]) := upd_same
      generalize upd H6 l1 (.lst [.str (tx ++ cd), .str "chunks", .int 0]) = G1 at *
      have n2 := C1.1.ne h2
      have C2 := C1.ex (Ex.new (o := .lst [.str (cd ++ tx), .str "chunks", .int 0]) h2)
      have f1 := Ex.new (o := .lst [.str (cd ++ tx), .str "chunks", .int 0]) h2 _ _ f1
      have f2 : (upd G1 l2 (.lst [.str (cd ++ tx), .str "chunks", .int 0])) l2 = some (.lst [.str (cd ++ tx), .str "chunks", .int 0]) := upd_same
      generalize upd G1 l2 (.lst [.str (cd ++ tx), .str "chunks", .int 0]) = G2 at *
      have n3 := C2.1.ne h3
      have C3 := C2.ex (Ex.new (o := .lst [.str (tx ++ tx), .str "length", .int sz]) h3)
      have f1 := Ex.new (o := .lst [.str (tx ++ tx), .str "length", .int sz]) h3 _ _ f1
      have f2 := Ex.new (o := .lst [.str (tx ++ tx), .str "length", .int sz]) h3 _ _ f2
      have f3 : (upd G2 l3 (.lst [.str (tx ++ tx), .str "length", .int sz])) l3 = some (.lst [.str (tx ++ tx), .str "length", .int sz]) := upd_same
      generalize upd G2 l3 (.lst [.str (tx ++ tx), .str "length", .int sz]) = G3 at *
      have n4 := C3.1.ne h4
      have C4 := C3.ex (Ex.new (o := .lst [.ref l1, .ref l2, .ref l3]) h4)
      refine ⟨p, l4, _, _, rfl, C4.1, by omega, n4, upd_same, (fun z => by cases z), by show 3 ≤ 1000; decide, fun x H7 hx bg => ?_⟩
      have B7 := C4.tr bg
      have g1 := bg.at (Ex.new h4 _ _ f1) n1
      have g2 := bg.at (Ex.new h4 _ _ f2) n2
      have g3 := bg.at (Ex.new h4 _ _ f3) n3
      simp only [List.mem_cons, List.not_mem_nil, or_false] at hx
      rcases hx with rfl | rfl | rfl
      · exact k _ _ _ _ _ g1 n1 ((tk.app cdk).le (by decide)) (by decide) (by decide) (B7.le (by omega))
      · exact k _ _ _ _ _ g2 n2 ((cdk.app tk).le (by decide)) (by decide) (by decide) (B7.le (by omega))
      · exact k _ _ _ _ _ g3 n3 ((tk.app tk).le (by decide)) (by omega) (by omega) (B7.le (by omega))
    refine ⟨_, rfl, rfl, _, rfl, ?_⟩
    refine ite2 (fun c5 => ?_) (fun c5 => ?_)
    · refine ⟨by show 4 ≤ sizeLine; decide, fun l1 h1 => ⟨_, rfl, by show 3 ≤ sizeLine; decide, fun l2 h2 => ?_⟩⟩
      refine ⟨l1, l2, _, _, rfl, rfl, (upd_ne (ne_of_none upd_same h2)).trans upd_same, upd_same, by show 4 + 3 ≤ sizeLine; decide, fun l3 h3 => ?_⟩
      have C1 := B6.ex (Ex.new (o := .lst [.str "Content-Length: x\n", .str "Content-Length:\n", .str "Content-Length: +1\n", .str "Content-Length: 1, 2\n"]) h1)
      have C2 := C1.ex (Ex.new (o := .lst [.str "Transfer-Encoding: gzip, chunked\n", .str "Transfer-Encoding:\n", .str "Content-Length: 99999999\n"]) h2)
      have n3 := C2.1.ne h3
      refine ⟨_, rfl, _, rfl, p, l3, _, _, rfl, (C2.ex (Ex.new h3)).1, by omega, n3, upd_same, (fun z => by cases z), by show 7 ≤ 1000; decide, fun x H7 hx bg => ?_⟩
      have B7 := (C2.ex (Ex.new h3)).tr bg
      obtain ⟨z, rfl, zm, zk⟩ := pick_str (ss := ["Content-Length: x\n", "Content-Length:\n", "Content-Length: +1\n", "Content-Length: 1, 2\n", "Transfer-Encoding: gzip, chunked\n", "Transfer-Encoding:\n", "Content-Length: 99999999\n"]) (n := 40) (by decide +kernel) hx
      exact ⟨by show 3 ≤ sizeLine; decide, fin B7 (by omega) (zk.le (by decide)) (by decide) (by decide)⟩
    · exact ⟨by show 3 ≤ sizeLine; decide, fin B6 (by omega) (TxOk.c (by decide +kernel)) (by decide) (by decide)⟩
end
end K32

namespace K32
open PySem PySem.Spec PyProof.Rows L2
section
variable {P : Program} {w : World} {K : PySem.W.Frag} {mg : Str → Option Value} {base : Heap} {A : Adr}
/-! ### _law_chunked -/
def sp__law_chunked : Sp := fun vs H Q _ => ∃ (p : Addr) (n : Nat), vs = [.ref p] ∧ BgAt H p n ∧ n ≤ 400000 ∧ ∀ q os H', H' q = some (.lst (os.map V.int)) → q ≠ p → OsOk 700 os → Bg p (n + 100) H H' → Q (.ref q) H'
abbrev N__law_chunked : List Str := ["_law_bag_here", "_law_found", "_law_turn", "_law_size", "_law_digits", "_law_at"]
theorem sc__law_chunked : FnScope N__law_chunked ["_law_bag_here"] (defScope s__law_chunked) := ⟨rfl, rfl, rfl, by decide +kernel, rfl, by decide +kernel, by decide +kernel⟩
theorem h__law_chunked (T : Txt K w mg A) : Has CX0 P w K mg base "_law_chunked" 4 ["_law_bag_here"] sp__law_chunked := by
  refine has0 (k := 3) T.d__law_chunked sc__law_chunked (fun _ _ _ _ _ _ us hl => match us, hl with | [_], _ => rfl) (fun vs H Q E h => ?_) (fun f cdv A0 outer ss H vs Q XE hr h => ?_)
  · obtain ⟨p, n, rfl, _⟩ := h
    rfl
  · obtain ⟨p, n, rfl, hb, nn, k⟩ := h
    refine ⟨_, ((pss_cons (ps_set (i := 1) sc__law_chunked.nd rfl (.inl rfl) (pe_lst pa_nil))
      (pss_cons (ps_for PassesOwn.never rfl (pi_range1 (by rfl) T.b_range (pa_cons (pe_fn (h__law_take T) (hr.mono (by decide)) paN (pa_cons (pv 0) (pa_cons pe_int pa_nil))) pa_nil)) (pg_name (i := 2) sc__law_chunked.nd rfl (.inl rfl))
      (pss_cons (ps_set (i := 3) sc__law_chunked.nd rfl (.inl rfl) (pe_op op_add pe_int (pe_fn (h__law_pick T) (hr.mono (by decide)) paN (pa_cons (pv 0) (pa_cons (pe_lst (pa_cons pe_int (pa_cons pe_int (pa_cons pe_int (pa_cons pe_int (pa_cons pe_int pa_nil)))))) pa_nil)))))
      (pss_cons (ps_set (i := 4) sc__law_chunked.nd rfl (.inl rfl) (pe_op op_add_str (pe_op op_add_str (pe_fn (h__law_pick T) (hr.mono (by decide)) paN (pa_cons (pv 0) (pa_cons (pe_lst (pa_cons pe_str (pa_cons pe_str (pa_cons pe_str pa_nil)))) pa_nil))) (pe_ix ix_list (pe_lst (pa_cons pe_str (pa_cons pe_str pa_nil))) (pe_op op_fdiv (pv 3) pe_int) (fun _ _ => rfl))) (pe_ix ix_str pe_str (pe_op op_mod (pv 3) pe_int) (fun _ _ => rfl))))
      (pss_cons (ps_set (i := 1) sc__law_chunked.nd rfl (.inl rfl) (pe_op op_cat (pv 1) (pe_fn (h_octets T) (hr.mono (by decide)) paN (pa_cons (pe_op op_add_str (pe_op op_add_str (pv 4) (pe_fn (h__law_pick T) (hr.mono (by decide)) paN (pa_cons (pv 0) (pa_cons (pe_lst (pa_cons pe_str (pa_cons pe_str (pa_cons pe_str pa_nil)))) pa_nil)))) pe_str) pa_nil))))
      (pss_one (ps_set (i := 1) sc__law_chunked.nd rfl (.inl rfl) (pe_op op_cat (pe_op op_cat (pv 1) (pe_lc (own := [("_law_at", 5)]) (g := gName 5) (tt := tYes) rfl sc__law_chunked.nd (pi_range1 (by rfl) T.b_range (pa_cons (pv 3) pa_nil)) (blkOk_by (N := N__law_chunked) (sc := defScope s__law_chunked) (by decide +kernel)) (fun _ _ _ _ _ => pg_name (i := 5) sc__law_chunked.nd rfl (Or.inl rfl)) (fun _ _ _ _ _ => pts_nil) (fun _ _ _ _ _ => (pe_fn (h__law_take T) (hr.mono (by decide)) paN (pa_cons (pv 0) (pa_cons pe_int pa_nil)))))) (pe_lst (pa_cons pe_int (pa_cons pe_int pa_nil))))))))))
      (pss_one (ps_ret (pe_op op_cat (pv 1) (pe_fn (h_octets T) (hr.mono (by decide)) paN (pa_cons (pe_op op_add_str (pe_op op_add_str (pe_op op_add_str (pe_fn (h__law_pick T) (hr.mono (by decide)) paN (pa_cons (pv 0) (pa_cons (pe_lst (pa_cons pe_str (pa_cons pe_str (pa_cons pe_str pa_nil)))) pa_nil))) pe_str) (pe_fn (h__law_lines_of T) (hr.mono (by decide)) paN (pa_cons (pv 0) (pa_cons pe_int pa_nil)))) pe_str) pa_nil)))))))), ?_⟩
    have B0 := Bg.here hb
    refine ⟨Nat.zero_le _, fun q0 hq0 => ?_⟩
    have eq0 : (upd H q0 (.lst [])) q0 = some (.lst (([] : List Int).map V.int)) := upd_same
    have nq0 := B0.1.ne hq0
    have B1 := B0.ex (Ex.new (o := .lst []) hq0)
    generalize upd H q0 (.lst []) = H1 at *
    refine ⟨_, rfl, p, _, 4, rfl, B1.1, by omega, by decide, by decide, fun t H2 t0 t1 bg2 => ?_⟩
    have B2 := B1.tr bg2
    have eq0 := bg2.at eq0 nq0
    refine ⟨_, rfl, by omega, by omega, for_range (lo := 0) (n := t.toNat) (fun i σ H' => ∃ q os v2 v3 v4 v5, σ = [some (.ref p), some (.ref q), v2, v3, v4, v5] ∧ H' q = some (.lst (os.map V.int)) ∧ q ≠ p ∧ OsOk (60 * i) os ∧ Bg p (n + 1 + 24 * i) H H') ⟨q0, [], _, _, _, _, rfl, eq0, nq0, ⟨Nat.le_refl _, fun o ho => by cases ho⟩, B2⟩ ?_ ?_⟩
    · rintro i σ H3 hi ⟨q, os, v2, v3, v4, v5, rfl, hq, n_hq, hos, B3⟩
      have hi3 : i < 3 := by omega
      refine ⟨_, rfl, by show 5 ≤ sizeLine; decide, fun l4 hl4 => ⟨p, l4, _, _, rfl, B3.1.ex (Ex.new hl4), by omega, B3.1.ne hl4, upd_same, (fun z => by cases z), by show 5 ≤ 1000; decide, fun x4 H4 hx4 bg4 => ?_⟩⟩
      have B4 := (B3.ex (Ex.new hl4)).tr bg4
      have hq := bg4.at (Ex.new hl4 _ _ hq) n_hq
      clear bg4 B3
      obtain ⟨x, rfl, xm, x0, x1⟩ := pick_int (l := [0,1,9,15,20]) (lo := 0) (hi := 20) (by decide) hx4
      refine ⟨_, _, rfl, rfl, ?_⟩
      have y0 : 1 ≤ 1 + x := by omega
      have y1 : 1 + x ≤ 21 := by omega
      refine ⟨_, rfl, by show 3 ≤ sizeLine; decide, fun l5 hl5 => ⟨p, l5, _, _, rfl, B4.1.ex (Ex.new hl5), by omega, B4.1.ne hl5, upd_same, (fun z => by cases z), by show 3 ≤ 1000; decide, fun x5 H5 hx5 bg5 => ?_⟩⟩
      have B5 := (B4.ex (Ex.new hl5)).tr bg5
      have hq := bg5.at (Ex.new hl5 _ _ hq) n_hq
      clear bg5 B4
      obtain ⟨za, rfl, zam, zak⟩ := pick_str (ss := ["", "0", "00"]) (n := 2) (by decide +kernel) hx5
      refine ⟨by show 2 ≤ sizeLine; decide, fun l1 h1 => ⟨_, rfl, _, _, rfl, rfl, ⟨by decide, by decide⟩, ?_⟩⟩
      have B6 := B5.ex (Ex.new (o := .lst [.str "", .str "1"]) h1)
      have hq := Ex.new (o := .lst [.str "", .str "1"]) h1 _ _ hq
      have f1 : (upd H5 l1 (.lst [.str "", .str "1"])) l1 = some (.lst [.str "", .str "1"]) := upd_same
      generalize upd H5 l1 (.lst [.str "", .str "1"]) = H6 at *
      obtain ⟨zb, hzb, zbk⟩ : ∃ zb : Str, atI [V.str "", V.str "1"] ((1 + x) / 16) = some (.str zb) ∧ TxOk 1 zb := by
        have hy : (1 + x) / 16 = 0 ∨ (1 + x) / 16 = 1 := by omega
        rcases hy with hy | hy
        · rw [hy]
          exact ⟨_, at0 _ _, TxOk.c (by decide +kernel)⟩
        · rw [hy]
          exact ⟨_, at1 _ _ _, TxOk.c (by decide +kernel)⟩
      obtain ⟨c, hc, ck⟩ := hex_at ((1 + x) % 16).toNat (by omega)
      have hc2 : atI (("0123456789abCDeF" : Str)).cps.toList ((1 + x) % 16) = some c := by
        have e : (1 + x) % 16 = ((((1 + x) % 16).toNat : Nat) : Int) := by omega
        rw [e]
        exact atI_nat hc
      have ck := TxOk.c ck
      have t1 := zak.app zbk
      have t2 := t1.app ck
      refine ⟨l1, _, _, _, rfl, rfl, SqL.of f1, hzb, _, _, rfl, rfl, zak.sum zbk (by decide), _, rfl, _, _, rfl, rfl, (by show (0 : Int) < 16; decide), _, _, c, rfl, rfl, by decide +kernel, hc2, _, _, rfl, rfl, t1.sum ck (by decide), ?_⟩
      have tk := t2
      generalize za ++ zb ++ (⟨#[c]⟩ : Str) = z at *
      refine ⟨_, rfl, _, rfl, ?_⟩
      refine ⟨_, rfl, by show 3 ≤ sizeLine; decide, fun l7 hl7 => ⟨p, l7, _, _, rfl, B6.1.ex (Ex.new hl7), by omega, B6.1.ne hl7, upd_same, (fun z => by cases z), by show 3 ≤ 1000; decide, fun x7 H7 hx7 bg7 => ?_⟩⟩
      have B7 := (B6.ex (Ex.new hl7)).tr bg7
      have hq := bg7.at (Ex.new hl7 _ _ hq) n_hq
      clear bg7 B6
      obtain ⟨zc, rfl, zcm, zck⟩ := pick_str (ss := ["", ";x", "; a=\"b\" "]) (n := 8) (by decide +kernel) hx7
      have s3 : TxOk 1 "\n" := TxOk.c (by decide +kernel)
      have t3 := tk.app zck
      have t4 := t3.app s3
      refine ⟨_, _, rfl, rfl, tk.sum zck (by decide), _, _, rfl, rfl, t3.sum s3 (by decide), _, rfl, t4.1, Nat.le_trans t4.2 (by decide), fun r H8 os2 hr8 e8 hr lr hos2 => ?_⟩
      have hos2 : OsOk 26 os2 := ⟨by have := t4.2; omega, hos2⟩
      have hq8 := e8 _ _ hq
      have B8 := B7.ex e8
      refine ⟨q, r, _, _, rfl, rfl, hq8, hr, hos.sum hos2 (by omega), fun q2 hq2 => ?_⟩
      have n_hq := B8.1.ne hq2
      have B9 := B8.ex (Ex.new (o := .lst (os.map V.int ++ os2.map V.int)) hq2)
      have hq : (upd H8 q2 (.lst (os.map V.int ++ os2.map V.int))) q2 = some (.lst ((os ++ os2).map V.int)) := by
        rw [upd_same, List.map_append]
      have hos3 := hos.app hos2
      generalize upd H8 q2 (.lst (os.map V.int ++ os2.map V.int)) = H9 at *
      refine ⟨_, rfl, _, rfl, _, rfl, by omega, by omega, fun D hD => comp_draw (p := p) (k := (1 + x).toNat) (m := n + 1 + 24 * i + 1 + 1 + 1) hD B9.1 (by omega) (fun xx => [some (.ref p), some (.ref q2), some (.int (0 + i)), some (.int (1 + x)), some (.str z), some xx]) (fun xx H' R r => r) (fun xx => rfl) (fun xx H' R r => r) (fun xx j H' R hj hb' r => ?_) (fun H10 os4 bg4 hD4 hos4 => ?_)⟩
      · exact ⟨_, rfl, p, _, 256, rfl, hb', by omega, by decide, by decide, r⟩
      · have B10 := B9.tr bg4
        have hq := bg4.at hq n_hq
        have hos4 : OsOk 21 os4 := hos4.le (by omega)
        refine ⟨q2, D, _, _, rfl, rfl, hq, hD4, hos3.sum hos4 (by omega), fun q3 hq3 => ?_⟩
        have n_hq := B10.1.ne hq3
        have B11 := B10.ex (Ex.new (o := .lst ((os ++ os2).map V.int ++ os4.map V.int)) hq3)
        have hq : (upd H10 q3 (.lst ((os ++ os2).map V.int ++ os4.map V.int))) q3 = some (.lst (((os ++ os2) ++ os4).map V.int)) := by
          rw [upd_same, List.map_append (l₁ := os ++ os2)]
        have hos5 := hos3.app hos4
        generalize upd H10 q3 (.lst ((os ++ os2).map V.int ++ os4.map V.int)) = H11 at *
        refine ⟨by show 2 ≤ sizeLine; decide, fun l2 h2 => ?_⟩
        have hq := Ex.new (o := .lst [.int 13, .int 10]) h2 _ _ hq
        have B12 := B11.ex (Ex.new (o := .lst [.int 13, .int 10]) h2)
        have hos6 : OsOk 2 [13, 10] := ⟨Nat.le_refl _, by decide⟩
        refine ⟨q3, l2, _, _, rfl, rfl, hq, upd_same, hos5.sum hos6 (by omega), fun q4 hq4 => ?_⟩
        refine ⟨q4, ((os ++ os2) ++ os4) ++ [13, 10], _, _, _, _, rfl, ?_, B12.1.ne hq4, (hos5.app hos6).le (by omega), (B12.ex (Ex.new hq4)).le (by omega)⟩
        rw [upd_same, List.map_append (l₁ := (os ++ os2) ++ os4)]
        rfl
    · rintro σ H3 ⟨q, os, v2, v3, v4, v5, rfl, hq, n_hq, hos, B3⟩
      refine ⟨_, rfl, ?_⟩
      refine ⟨_, rfl, by show 3 ≤ sizeLine; decide, fun l4 hl4 => ⟨p, l4, _, _, rfl, B3.1.ex (Ex.new hl4), by omega, B3.1.ne hl4, upd_same, (fun z => by cases z), by show 3 ≤ 1000; decide, fun x4 H4 hx4 bg4 => ?_⟩⟩
      have B4 := (B3.ex (Ex.new hl4)).tr bg4
      have hq := bg4.at (Ex.new hl4 _ _ hq) n_hq
      clear bg4 B3
      obtain ⟨za, rfl, zam, zak⟩ := pick_str (ss := ["0", "000", "0;end"]) (n := 5) (by decide +kernel) hx4
      have s3 : TxOk 1 "\n" := TxOk.c (by decide +kernel)
      have t1 := zak.app s3
      refine ⟨_, _, rfl, rfl, zak.sum s3 (by decide), _, rfl, p, _, 2, rfl, B4.1, by omega, by decide, by decide, fun zb H5 zbk bg5 => ?_⟩
      have B5 := B4.tr bg5
      have hq := bg5.at hq n_hq
      have t2 := t1.app zbk
      have t3 := t2.app s3
      refine ⟨_, _, rfl, rfl, t1.sum zbk (by decide), _, _, rfl, rfl, t2.sum s3 (by decide), _, rfl, t3.1, Nat.le_trans t3.2 (by decide), fun r H8 os2 hr8 e8 hr lr hos2 => ?_⟩
      have hos2 : OsOk 414 os2 := ⟨by have := t3.2; omega, hos2⟩
      refine ⟨q, r, _, _, rfl, rfl, e8 _ _ hq, hr, hos.sum hos2 (by omega), fun q2 hq2 => ?_⟩
      refine k q2 (os ++ os2) _ ?_ ((B5.ex e8).1.ne hq2) ((hos.app hos2).le (by omega)) (((B5.ex e8).ex (Ex.new hq2)).le (by omega))
      rw [upd_same, List.map_append]
end
end K32

namespace K32
open PySem PySem.Spec PyProof.Rows L2
section
variable {P : Program} {w : World} {K : PySem.W.Frag} {mg : Str → Option Value} {base : Heap} {A : Adr}
/-! ### _law_one -/
def sp__law_one : Sp := fun vs H Q _ => ∃ (p : Addr) (n : Nat) (kd : Str), vs = [.ref p, .str kd] ∧ BgAt H p n ∧ n ≤ 300000 ∧ ∀ q os H', H' q = some (.lst (os.map V.int)) → q ≠ p → OsOk 2100 os → Bg p (n + 300) H H' → Q (.ref q) H'
abbrev N__law_one : List Str := ["_law_bag_here", "_law_kind", "_law_version", "_law_frame_here", "_law_rest", "_law_text", "_law_body_here", "_law_data_here", "_law_at", "_law_octet"]
theorem sc__law_one : FnScope N__law_one ["_law_bag_here", "_law_kind"] (defScope s__law_one) := ⟨rfl, rfl, rfl, by decide +kernel, rfl, by decide +kernel, by decide +kernel⟩
theorem h__law_one (T : Txt K w mg A) : Has CX0 P w K mg base "_law_one" 5 ["_law_bag_here", "_law_kind"] sp__law_one := by
  refine has0 (k := 4) T.d__law_one sc__law_one (fun _ _ _ _ _ _ us hl => match us, hl with | [_, _], _ => rfl) (fun vs H Q E h => ?_) (fun f cdv A0 outer ss H vs Q XE hr h => ?_)
  · obtain ⟨p, n, kd, rfl, _⟩ := h
    rfl
  · obtain ⟨p, n, kd, rfl, hb, nn, k⟩ := h
    refine ⟨_, ((pss_cons (ps_par (i := 2) (j := 3) (by rfl) sc__law_one.nd rfl rfl (by decide) rfl rfl (pa_cons (pe_callTy call_int1 (by rfl) T.b_int (by decide +kernel) (pa_cons (pe_cmpR op_gt (pe_fn (h__law_take T) (hr.mono (by decide)) paN (pa_cons (pv 0) (pa_cons pe_int pa_nil))) pe_int (nomark _)) pa_nil)) (pa_cons (pe_fn (h__law_framing T) (hr.mono (by decide)) paN (pa_cons (pv 0) pa_nil)) pa_nil)) (by rfl))
      (pss_cons (ps_set (i := 4) sc__law_one.nd rfl (.inl rfl) (pe_lst (pa_cons pe_str (pa_cons pe_str (pa_cons pe_str (pa_cons pe_str (pa_cons pe_str (pa_cons pe_str pa_nil))))))))
      (pss_cons (ps_set (i := 4) sc__law_one.nd rfl (.inl rfl) (pe_op op_cat (pv 4) (pe_lst (pa_cons pe_str pa_nil))))
      (pss_cons (ps_set (i := 5) sc__law_one.nd rfl (.inl rfl) (pe_op op_add_str (pe_op op_add_str (pe_fn (h__law_head T) (hr.mono (by decide)) paN (pa_cons (pv 0) (pa_cons (pv 1) (pa_cons (pv 2) pa_nil)))) (pe_fn (h__law_lines_of T) (hr.mono (by decide)) paN (pa_cons (pv 0) (pa_cons pe_int pa_nil)))) (pe_ix ix_list (pv 3) pe_int (fun _ _ => rfl))))
      (pss_cons (ps_set (i := 5) sc__law_one.nd rfl (.inl rfl) (pe_op op_add_str (pe_op op_add_str (pv 5) (pe_fn (h__law_pick T) (hr.mono (by decide)) paN (pa_cons (pv 0) (pa_cons (pv 4) pa_nil)))) (pe_fn (h__law_lines_of T) (hr.mono (by decide)) paN (pa_cons (pv 0) (pa_cons pe_int pa_nil)))))
      (pss_cons (ps_set (i := 6) sc__law_one.nd rfl (.inl rfl) (pe_ifExp (pt_cmpR op_eq (pe_ix ix_list (pv 3) pe_int (fun _ _ => rfl)) pe_str (nomark _)) (pe_lc (own := [("_law_at", 8)]) (g := gName 8) (tt := tYes) rfl sc__law_one.nd (pi_range1 (by rfl) T.b_range (pa_cons (pe_ix ix_list (pv 3) pe_int (fun _ _ => rfl)) pa_nil)) (blkOk_by (N := N__law_one) (sc := defScope s__law_one) (by decide +kernel)) (fun _ _ _ _ _ => pg_name (i := 8) sc__law_one.nd rfl (Or.inl rfl)) (fun _ _ _ _ _ => pts_nil) (fun _ _ _ _ _ => (pe_fn (h__law_take T) (hr.mono (by decide)) paN (pa_cons (pv 0) (pa_cons pe_int pa_nil))))) (pe_lst pa_nil)))
      (pss_cons (ps_if (pt_cmpR op_eq (pe_ix ix_list (pv 3) pe_int (fun _ _ => rfl)) pe_str (nomark _)) (pss_one (ps_set (i := 6) sc__law_one.nd rfl (.inl rfl) (pe_fn (h__law_chunked T) (hr.mono (by decide)) paN (pa_cons (pv 0) pa_nil)))) pss_nil)
      (pss_cons (ps_set (i := 7) sc__law_one.nd rfl (.inl rfl) (pe_fn (h_octets T) (hr.mono (by decide)) paN (pa_cons (pe_op op_add_str (pv 5) pe_str) pa_nil)))
      (pss_cons (ps_if (pt_cmpR op_eq (pe_fn (h__law_take T) (hr.mono (by decide)) paN (pa_cons (pv 0) (pa_cons pe_int pa_nil))) pe_int (nomark _)) (pss_one (ps_setLc (i := 7) (own := [("_law_octet", 9)]) (g := gName 9) (tt := tYes) rfl sc__law_one.nd rfl rfl (sw_true rfl rfl rfl (by decide +kernel)) (pi_list (pv 7)) (blkOk_by (N := N__law_one) (sc := defScope s__law_one) (by decide +kernel)) (fun _ _ _ _ _ => pg_name (i := 9) sc__law_one.nd rfl (Or.inl rfl)) (fun _ _ _ _ _ => pts_nil) (fun _ _ _ _ _ => (pe_ifExp (pt_cmpR op_eq (pv 9) pe_int (nomark _)) pe_int (pv 9))))) pss_nil)
      (pss_one (ps_ret (pe_op op_cat (pv 7) (pv 6)))))))))))))), ?_⟩
    have B0 := Bg.here hb
    refine ⟨_, rfl, p, _, 4, rfl, B0.1, by omega, by decide, by decide, fun t1 H1 t10 t11 bg1 => ?_⟩
    have B1 := B0.tr bg1
    clear bg1 B0
    refine ⟨_, _, rfl, rfl, .inr ⟨_, rfl, ?_⟩⟩
    have v0 : (0 : Int) ≤ (if decide (0 < t1) = true then 1 else 0) := by split <;> decide
    have v1 : (if decide (0 < t1) = true then (1 : Int) else 0) ≤ 1 := by split <;> decide
    refine ⟨_, rfl, p, _, rfl, B1.1, by omega, fun q fz fw fi H2 hqf n_hqf fzk fi0 fi1 bg2 => ?_⟩
    have B2 := B1.tr bg2
    refine ⟨_, _, rfl, by show 6 ≤ sizeLine; decide, fun la hla => ?_⟩
    have e3 := Ex.new (o := .lst [.str "", .str "", .str "", .str "Connection: close\n", .str "connection:Keep-Alive\n", .str "Connection: x, Upgrade\n"]) hla
    have ea : (upd H2 la (.lst [.str "", .str "", .str "", .str "Connection: close\n", .str "connection:Keep-Alive\n", .str "Connection: x, Upgrade\n"])) la = some (.lst [.str "", .str "", .str "", .str "Connection: close\n", .str "connection:Keep-Alive\n", .str "Connection: x, Upgrade\n"]) := upd_same
    generalize upd H2 la (.lst [.str "", .str "", .str "", .str "Connection: close\n", .str "connection:Keep-Alive\n", .str "Connection: x, Upgrade\n"]) = Ha at *
    refine ⟨_, rfl, by show 1 ≤ sizeLine; decide, fun lb hlb => ?_⟩
    have e4 := Ex.new (o := .lst [.str "Connection: close\nConnection: keep-alive\n"]) hlb
    have eb : (upd Ha lb (.lst [.str "Connection: close\nConnection: keep-alive\n"])) lb = some (.lst [.str "Connection: close\nConnection: keep-alive\n"]) := upd_same
    generalize upd Ha lb (.lst [.str "Connection: close\nConnection: keep-alive\n"]) = Hb at *
    refine ⟨la, lb, _, _, rfl, rfl, e4 _ _ ea, eb, by show 6 + 1 ≤ sizeLine; decide, fun lc hlc => ?_⟩
    have e5 := Ex.new (o := .lst ([V.str "", .str "", .str "", .str "Connection: close\n", .str "connection:Keep-Alive\n", .str "Connection: x, Upgrade\n"] ++ [V.str "Connection: close\nConnection: keep-alive\n"])) hlc
    have ec : (upd Hb lc (.lst ([V.str "", .str "", .str "", .str "Connection: close\n", .str "connection:Keep-Alive\n", .str "Connection: x, Upgrade\n"] ++ [V.str "Connection: close\nConnection: keep-alive\n"]))) lc = some (.lst ((["", "", "", "Connection: close\n", "connection:Keep-Alive\n", "Connection: x, Upgrade\n", "Connection: close\nConnection: keep-alive\n"] : List Str).map V.str)) := upd_same
    have B3 := ((B2.ex e3).ex e4)
    have n_ec := B3.1.ne hlc
    have B3 := B3.ex e5
    generalize upd Hb lc (.lst ([V.str "", .str "", .str "", .str "Connection: close\n", .str "connection:Keep-Alive\n", .str "Connection: x, Upgrade\n"] ++ [V.str "Connection: close\nConnection: keep-alive\n"])) = Hc at *
    have hqf := e5 _ _ (e4 _ _ (e3 _ _ hqf))
    refine ⟨_, rfl, _, rfl, _, rfl, p, _, _, _, rfl, B3.1, by omega, v0, v1, fun z1 H4 z1k bg4 => ?_⟩
    have B4 := B3.tr bg4
    have hqf := bg4.at hqf n_hqf
    have ec := bg4.at ec n_ec
    refine ⟨_, rfl, p, _, 2, rfl, B4.1, by omega, by decide, by decide, fun z2 H5 z2k bg5 => ?_⟩
    have B5 := B4.tr bg5
    have hqf := bg5.at hqf n_hqf
    have ec := bg5.at ec n_ec
    have t2 := z1k.app z2k
    have t3 := t2.app fzk
    refine ⟨_, _, rfl, rfl, z1k.sum z2k (by decide), _, rfl, q, _, _, _, rfl, rfl, SqL.of hqf, at0 _ _, _, _, rfl, rfl, t2.sum fzk (by decide), _, rfl, ?_⟩
    refine ⟨_, rfl, _, rfl, p, _, _, _, rfl, B5.1, by omega, n_ec, ec, (fun z => by cases z), by show 7 ≤ 1000; decide, fun x6 H6 hx6 bg6 => ?_⟩
    have B6 := B5.tr bg6
    have ec := bg6.at ec n_ec
    have hqf := bg6.at hqf n_hqf
    clear bg6 B5
    obtain ⟨z3, rfl, z3m, z3k⟩ := pick_str (ss := ["", "", "", "Connection: close\n", "connection:Keep-Alive\n", "Connection: x, Upgrade\n", "Connection: close\nConnection: keep-alive\n"]) (n := 41) (by decide +kernel) hx6
    have t4 := t3.app z3k
    refine ⟨_, _, rfl, rfl, t3.sum z3k (by decide), _, rfl, p, _, 1, rfl, B6.1, by omega, by decide, by decide, fun z4 H7 z4k bg7 => ?_⟩
    have B7 := B6.tr bg7
    have hqf := bg7.at hqf n_hqf
    have t5 := t4.app z4k
    have s3 : TxOk 1 "\n" := TxOk.c (by decide +kernel)
    have t6 := t5.app s3
    refine ⟨_, _, rfl, rfl, t4.sum z4k (by decide), _, rfl, q, _, _, _, rfl, rfl, SqL.of hqf, at1 _ _ _, rfl, _, rfl, ?_⟩
    refine ite2 (fun c1 => ?_) (fun c1 => ?_)
    · refine ⟨_, rfl, q, _, _, _, rfl, rfl, SqL.of hqf, atI_nat (j := 2) rfl, _, rfl, by omega, by omega, fun q6 hD => comp_draw (p := p) (k := fi.toNat) hD B7.1 (by omega) (fun xx => [some (.ref p), some (.str kd), some (.int (if decide (0 < t1) = true then 1 else 0)), some (.ref q), some (.ref lc), some (.str (z1 ++ z2 ++ fz ++ z3 ++ z4)), none, none, some xx, none]) (fun xx H' R r => r) (fun xx => rfl) (fun xx H' R r => r) (fun xx j H' R hj hb' r => ?_) (fun Hx os6 bgx hq6 hos6 => ?_)⟩
      · exact ⟨_, rfl, p, _, 256, rfl, hb', by omega, by decide, by decide, r⟩
      · obtain ⟨mx, hmx, Bx⟩ : ∃ mx, mx ≤ n + 130 ∧ Bg p mx H Hx := ⟨_, by omega, B7.tr bgx⟩
        have hqx := bgx.at hqf n_hqf
        have n_hq6 : q6 ≠ p := B7.1.ne hD
        have hos6 : OsOk 700 os6 := hos6.le (by omega)
        refine ⟨_, rfl, q, _, _, _, rfl, rfl, SqL.of hqx, at1 _ _ _, rfl, _, rfl, ?_⟩
        refine ite2 (fun c2 => ?_) (fun c2 => ?_)
        · refine ⟨_, rfl, p, _, rfl, Bx.1, by omega, fun q7 os7 H7 hq7 n_hq7 hos7 bg7 => ?_⟩
          have By := Bx.tr bg7
          have hmy : mx + 100 ≤ n + 230 := by omega
          refine ⟨_, rfl, _, _, rfl, rfl, t5.sum s3 (by decide), _, rfl, t6.1, Nat.le_trans t6.2 (by decide), fun r H8 os8 hr8 e8 hr lr hos8 => ?_⟩
          have hos8 : OsOk 1302 os8 := ⟨by have := t6.2; omega, hos8⟩
          have hq7 := e8 _ _ hq7
          have n_hr := By.1.ne hr8
          have Bz := By.ex e8
          refine ⟨_, rfl, p, _, 4, rfl, Bz.1, by omega, by decide, by decide, fun t9 H9 t90 t91 bg9 => ?_⟩
          have hr := bg9.at hr n_hr
          have hq7 := bg9.at hq7 n_hq7
          have Bw := Bz.tr bg9
          refine ⟨rfl, _, rfl, ?_⟩
          refine ite2 (fun c3 => ?_) (fun c3 => ?_)
          · refine ⟨_, rfl, r, rfl, ⟨_, SqL.of hr⟩, fun D hD => ?_⟩
            refine comp_rel hD (G := fun H => SqL K H r (os8.map V.int)) walk_list (fun H' e => SqL.of (e _ _ hr)) (by rw [List.length_map]; have := hos8.1; omega) (ints_rel os8) (fun d => [some (.ref p), some (.str kd), some (.int (if decide (0 < t1) = true then 1 else 0)), some (.ref q), some (.ref lc), some (.str (z1 ++ z2 ++ fz ++ z3 ++ z4)), some (.ref q7), some (.ref r), none, some (.int d)]) (fun _ => true) (fun o => .int (if o = 32 then 9 else o)) (fun x d H' e hd _ R k => ?_) (fun d _ => ?_) (fun d H' _ _ R k => ?_) (fun d H' hd _ _ R k => ?_) (fun H10 e10 hD10 => ?_)
            · subst e
              exact k
            · rfl
            · exact k H' (Ex.rfl' _)
            · refine ⟨_, rfl, rfl, _, rfl, ?_⟩
              have k2 := k H' (Ex.rfl' _)
              rw [dec_vi]
              by_cases h32 : d = 32
              · rw [if_pos h32] at k2
                rw [decide_eq_true h32]
                exact iteT k2
              · rw [if_neg h32] at k2
                rw [decide_eq_false h32]
                exact iteF ⟨_, rfl, k2⟩
            · have hD11 : H10 D = some (.lst ((os8.map fun o => if o = 32 then (9 : Int) else o).map V.int)) := by
                rw [hD10, filter_true, List.map_map]
                rfl
              have hos11 : OsOk 1302 (os8.map fun o => if o = 32 then (9 : Int) else o) := by
                refine ⟨by rw [List.length_map]; exact hos8.1, fun o ho => ?_⟩
                obtain ⟨a, ha, rfl⟩ := List.mem_map.mp ho
                have := hos8.2 a ha
                show 0 ≤ (if a = 32 then (9 : Int) else a) ∧ (if a = 32 then (9 : Int) else a) ≤ 255
                split <;> omega
              refine ⟨_, rfl, _, rfl, D, _, _, _, rfl, rfl, hD11, e10 _ _ hq7, hos11.sum hos7 (by decide), fun q2 hq2 => ?_⟩
              refine k q2 ((os8.map fun o => if o = 32 then (9 : Int) else o) ++ _) _ ?_ ((Bw.ex e10).1.ne hq2) ((hos11.app hos7).le (by decide)) (((Bw.ex e10).ex (Ex.new hq2)).le (by omega))
              rw [upd_same, List.map_append (l₁ := os8.map _)]
          · refine ⟨_, rfl, _, rfl, r, _, _, _, rfl, rfl, hr, hq7, hos8.sum hos7 (by decide), fun q2 hq2 => ?_⟩
            refine k q2 (os8 ++ _) _ ?_ (Bw.1.ne hq2) ((hos8.app hos7).le (by decide)) ((Bw.ex (Ex.new hq2)).le (by omega))
            rw [upd_same, List.map_append (l₁ := os8)]
        · have By := Bx
          have hmy : mx ≤ n + 230 := by omega
          have hq7 := hq6
          have n_hq7 := n_hq6
          have hos7 := hos6
          generalize q6 = q7 at *
          refine ⟨_, rfl, _, _, rfl, rfl, t5.sum s3 (by decide), _, rfl, t6.1, Nat.le_trans t6.2 (by decide), fun r H8 os8 hr8 e8 hr lr hos8 => ?_⟩
          have hos8 : OsOk 1302 os8 := ⟨by have := t6.2; omega, hos8⟩
          have hq7 := e8 _ _ hq7
          have n_hr := By.1.ne hr8
          have Bz := By.ex e8
          refine ⟨_, rfl, p, _, 4, rfl, Bz.1, by omega, by decide, by decide, fun t9 H9 t90 t91 bg9 => ?_⟩
          have hr := bg9.at hr n_hr
          have hq7 := bg9.at hq7 n_hq7
          have Bw := Bz.tr bg9
          refine ⟨rfl, _, rfl, ?_⟩
          refine ite2 (fun c3 => ?_) (fun c3 => ?_)
          · refine ⟨_, rfl, r, rfl, ⟨_, SqL.of hr⟩, fun D hD => ?_⟩
            refine comp_rel hD (G := fun H => SqL K H r (os8.map V.int)) walk_list (fun H' e => SqL.of (e _ _ hr)) (by rw [List.length_map]; have := hos8.1; omega) (ints_rel os8) (fun d => [some (.ref p), some (.str kd), some (.int (if decide (0 < t1) = true then 1 else 0)), some (.ref q), some (.ref lc), some (.str (z1 ++ z2 ++ fz ++ z3 ++ z4)), some (.ref q7), some (.ref r), none, some (.int d)]) (fun _ => true) (fun o => .int (if o = 32 then 9 else o)) (fun x d H' e hd _ R k => ?_) (fun d _ => ?_) (fun d H' _ _ R k => ?_) (fun d H' hd _ _ R k => ?_) (fun H10 e10 hD10 => ?_)
            · subst e
              exact k
            · rfl
            · exact k H' (Ex.rfl' _)
            · refine ⟨_, rfl, rfl, _, rfl, ?_⟩
              have k2 := k H' (Ex.rfl' _)
              rw [dec_vi]
              by_cases h32 : d = 32
              · rw [if_pos h32] at k2
                rw [decide_eq_true h32]
                exact iteT k2
              · rw [if_neg h32] at k2
                rw [decide_eq_false h32]
                exact iteF ⟨_, rfl, k2⟩
            · have hD11 : H10 D = some (.lst ((os8.map fun o => if o = 32 then (9 : Int) else o).map V.int)) := by
                rw [hD10, filter_true, List.map_map]
                rfl
              have hos11 : OsOk 1302 (os8.map fun o => if o = 32 then (9 : Int) else o) := by
                refine ⟨by rw [List.length_map]; exact hos8.1, fun o ho => ?_⟩
                obtain ⟨a, ha, rfl⟩ := List.mem_map.mp ho
                have := hos8.2 a ha
                show 0 ≤ (if a = 32 then (9 : Int) else a) ∧ (if a = 32 then (9 : Int) else a) ≤ 255
                split <;> omega
              refine ⟨_, rfl, _, rfl, D, _, _, _, rfl, rfl, hD11, e10 _ _ hq7, hos11.sum hos7 (by decide), fun q2 hq2 => ?_⟩
              refine k q2 ((os8.map fun o => if o = 32 then (9 : Int) else o) ++ _) _ ?_ ((Bw.ex e10).1.ne hq2) ((hos11.app hos7).le (by decide)) (((Bw.ex e10).ex (Ex.new hq2)).le (by omega))
              rw [upd_same, List.map_append (l₁ := os8.map _)]
          · refine ⟨_, rfl, _, rfl, r, _, _, _, rfl, rfl, hr, hq7, hos8.sum hos7 (by decide), fun q2 hq2 => ?_⟩
            refine k q2 (os8 ++ _) _ ?_ (Bw.1.ne hq2) ((hos8.app hos7).le (by decide)) ((Bw.ex (Ex.new hq2)).le (by omega))
            rw [upd_same, List.map_append (l₁ := os8)]
    · refine ⟨Nat.zero_le _, fun q6 hD => ?_⟩
      obtain ⟨mx, hmx, Bx⟩ : ∃ mx, mx ≤ n + 130 ∧ Bg p mx H _ := ⟨_, by omega, B7.ex (Ex.new (o := .lst []) hD)⟩
      have hqx := Ex.new (o := .lst []) hD _ _ hqf
      have n_hq6 : q6 ≠ p := B7.1.ne hD
      have hq6 : (upd H7 q6 (.lst [])) q6 = some (.lst (([] : List Int).map V.int)) := upd_same
      have hos6 : OsOk 700 [] := ⟨Nat.zero_le _, fun o ho => by cases ho⟩
      generalize upd H7 q6 (.lst []) = Hx at *
      refine ⟨_, rfl, q, _, _, _, rfl, rfl, SqL.of hqx, at1 _ _ _, rfl, _, rfl, ?_⟩
      refine ite2 (fun c2 => ?_) (fun c2 => ?_)
      · refine ⟨_, rfl, p, _, rfl, Bx.1, by omega, fun q7 os7 H7 hq7 n_hq7 hos7 bg7 => ?_⟩
        have By := Bx.tr bg7
        have hmy : mx + 100 ≤ n + 230 := by omega
        refine ⟨_, rfl, _, _, rfl, rfl, t5.sum s3 (by decide), _, rfl, t6.1, Nat.le_trans t6.2 (by decide), fun r H8 os8 hr8 e8 hr lr hos8 => ?_⟩
        have hos8 : OsOk 1302 os8 := ⟨by have := t6.2; omega, hos8⟩
        have hq7 := e8 _ _ hq7
        have n_hr := By.1.ne hr8
        have Bz := By.ex e8
        refine ⟨_, rfl, p, _, 4, rfl, Bz.1, by omega, by decide, by decide, fun t9 H9 t90 t91 bg9 => ?_⟩
        have hr := bg9.at hr n_hr
        have hq7 := bg9.at hq7 n_hq7
        have Bw := Bz.tr bg9
        refine ⟨rfl, _, rfl, ?_⟩
        refine ite2 (fun c3 => ?_) (fun c3 => ?_)
        · refine ⟨_, rfl, r, rfl, ⟨_, SqL.of hr⟩, fun D hD => ?_⟩
          refine comp_rel hD (G := fun H => SqL K H r (os8.map V.int)) walk_list (fun H' e => SqL.of (e _ _ hr)) (by rw [List.length_map]; have := hos8.1; omega) (ints_rel os8) (fun d => [some (.ref p), some (.str kd), some (.int (if decide (0 < t1) = true then 1 else 0)), some (.ref q), some (.ref lc), some (.str (z1 ++ z2 ++ fz ++ z3 ++ z4)), some (.ref q7), some (.ref r), none, some (.int d)]) (fun _ => true) (fun o => .int (if o = 32 then 9 else o)) (fun x d H' e hd _ R k => ?_) (fun d _ => ?_) (fun d H' _ _ R k => ?_) (fun d H' hd _ _ R k => ?_) (fun H10 e10 hD10 => ?_)
          · subst e
            exact k
          · rfl
          · exact k H' (Ex.rfl' _)
          · refine ⟨_, rfl, rfl, _, rfl, ?_⟩
            have k2 := k H' (Ex.rfl' _)
            rw [dec_vi]
            by_cases h32 : d = 32
            · rw [if_pos h32] at k2
              rw [decide_eq_true h32]
              exact iteT k2
            · rw [if_neg h32] at k2
              rw [decide_eq_false h32]
              exact iteF ⟨_, rfl, k2⟩
          · have hD11 : H10 D = some (.lst ((os8.map fun o => if o = 32 then (9 : Int) else o).map V.int)) := by
              rw [hD10, filter_true, List.map_map]
              rfl
            have hos11 : OsOk 1302 (os8.map fun o => if o = 32 then (9 : Int) else o) := by
              refine ⟨by rw [List.length_map]; exact hos8.1, fun o ho => ?_⟩
              obtain ⟨a, ha, rfl⟩ := List.mem_map.mp ho
              have := hos8.2 a ha
              show 0 ≤ (if a = 32 then (9 : Int) else a) ∧ (if a = 32 then (9 : Int) else a) ≤ 255
              split <;> omega
            refine ⟨_, rfl, _, rfl, D, _, _, _, rfl, rfl, hD11, e10 _ _ hq7, hos11.sum hos7 (by decide), fun q2 hq2 => ?_⟩
            refine k q2 ((os8.map fun o => if o = 32 then (9 : Int) else o) ++ _) _ ?_ ((Bw.ex e10).1.ne hq2) ((hos11.app hos7).le (by decide)) (((Bw.ex e10).ex (Ex.new hq2)).le (by omega))
            rw [upd_same, List.map_append (l₁ := os8.map _)]
        · refine ⟨_, rfl, _, rfl, r, _, _, _, rfl, rfl, hr, hq7, hos8.sum hos7 (by decide), fun q2 hq2 => ?_⟩
          refine k q2 (os8 ++ _) _ ?_ (Bw.1.ne hq2) ((hos8.app hos7).le (by decide)) ((Bw.ex (Ex.new hq2)).le (by omega))
          rw [upd_same, List.map_append (l₁ := os8)]
      · have By := Bx
        have hmy : mx ≤ n + 230 := by omega
        have hq7 := hq6
        have n_hq7 := n_hq6
        have hos7 := hos6
        generalize q6 = q7 at *
        refine ⟨_, rfl, _, _, rfl, rfl, t5.sum s3 (by decide), _, rfl, t6.1, Nat.le_trans t6.2 (by decide), fun r H8 os8 hr8 e8 hr lr hos8 => ?_⟩
        have hos8 : OsOk 1302 os8 := ⟨by have := t6.2; omega, hos8⟩
        have hq7 := e8 _ _ hq7
        have n_hr := By.1.ne hr8
        have Bz := By.ex e8
        refine ⟨_, rfl, p, _, 4, rfl, Bz.1, by omega, by decide, by decide, fun t9 H9 t90 t91 bg9 => ?_⟩
        have hr := bg9.at hr n_hr
        have hq7 := bg9.at hq7 n_hq7
        have Bw := Bz.tr bg9
        refine ⟨rfl, _, rfl, ?_⟩
        refine ite2 (fun c3 => ?_) (fun c3 => ?_)
        · refine ⟨_, rfl, r, rfl, ⟨_, SqL.of hr⟩, fun D hD => ?_⟩
          refine comp_rel hD (G := fun H => SqL K H r (os8.map V.int)) walk_list (fun H' e => SqL.of (e _ _ hr)) (by rw [List.length_map]; have := hos8.1; omega) (ints_rel os8) (fun d => [some (.ref p), some (.str kd), some (.int (if decide (0 < t1) = true then 1 else 0)), some (.ref q), some (.ref lc), some (.str (z1 ++ z2 ++ fz ++ z3 ++ z4)), some (.ref q7), some (.ref r), none, some (.int d)]) (fun _ => true) (fun o => .int (if o = 32 then 9 else o)) (fun x d H' e hd _ R k => ?_) (fun d _ => ?_) (fun d H' _ _ R k => ?_) (fun d H' hd _ _ R k => ?_) (fun H10 e10 hD10 => ?_)
          · subst e
            exact k
          · rfl
          · exact k H' (Ex.rfl' _)
          · refine ⟨_, rfl, rfl, _, rfl, ?_⟩
            have k2 := k H' (Ex.rfl' _)
            rw [dec_vi]
            by_cases h32 : d = 32
            · rw [if_pos h32] at k2
              rw [decide_eq_true h32]
              exact iteT k2
            · rw [if_neg h32] at k2
              rw [decide_eq_false h32]
              exact iteF ⟨_, rfl, k2⟩
          · have hD11 : H10 D = some (.lst ((os8.map fun o => if o = 32 then (9 : Int) else o).map V.int)) := by
              rw [hD10, filter_true, List.map_map]
              rfl
            have hos11 : OsOk 1302 (os8.map fun o => if o = 32 then (9 : Int) else o) := by
              refine ⟨by rw [List.length_map]; exact hos8.1, fun o ho => ?_⟩
              obtain ⟨a, ha, rfl⟩ := List.mem_map.mp ho
              have := hos8.2 a ha
              show 0 ≤ (if a = 32 then (9 : Int) else a) ∧ (if a = 32 then (9 : Int) else a) ≤ 255
              split <;> omega
            refine ⟨_, rfl, _, rfl, D, _, _, _, rfl, rfl, hD11, e10 _ _ hq7, hos11.sum hos7 (by decide), fun q2 hq2 => ?_⟩
            refine k q2 ((os8.map fun o => if o = 32 then (9 : Int) else o) ++ _) _ ?_ ((Bw.ex e10).1.ne hq2) ((hos11.app hos7).le (by decide)) (((Bw.ex e10).ex (Ex.new hq2)).le (by omega))
            rw [upd_same, List.map_append (l₁ := os8.map _)]
        · refine ⟨_, rfl, _, rfl, r, _, _, _, rfl, rfl, hr, hq7, hos8.sum hos7 (by decide), fun q2 hq2 => ?_⟩
          refine k q2 (os8 ++ _) _ ?_ (Bw.1.ne hq2) ((hos8.app hos7).le (by decide)) ((Bw.ex (Ex.new hq2)).le (by omega))
          rw [upd_same, List.map_append (l₁ := os8)]
end
end K32

namespace K32
open PySem PySem.Spec PyProof.Rows L2
theorem cut_ok (os : List Int) (lo hi : Option Int) : ∃ os' : List Int, cutV (os.map V.int) lo hi = os'.map V.int ∧ os'.length ≤ os.length ∧ ∀ o ∈ os', o ∈ os := by
  refine ⟨(os.drop (HT.sIx (os.map V.int).length 0 lo)).take (HT.sIx (os.map V.int).length (os.map V.int).length hi - HT.sIx (os.map V.int).length 0 lo), ?_, ?_, fun o ho => ?_⟩
  · unfold cutV
    rw [List.map_take, List.map_drop]
  · rw [List.length_take, List.length_drop]
    omega
  · exact List.mem_of_mem_drop (List.mem_of_mem_take ho)
theorem cut_take (os : List Int) (k : Nat) : cutV (os.map V.int) none (some (k : Int)) = (os.take k).map V.int := by
  unfold cutV
  rw [HT.sIx_none, HT.sIx_nat, Nat.sub_zero, List.drop_zero, ← List.take_take, List.take_length, List.map_take]
theorem OsOk.cut {n : Nat} {os : List Int} (h : OsOk n os) (lo hi : Option Int) : ∃ os' : List Int, cutV (os.map V.int) lo hi = os'.map V.int ∧ OsOk n os' := by
  obtain ⟨os', e, l, m⟩ := cut_ok os lo hi
  exact ⟨os', e, Nat.le_trans l h.1, fun o ho => h.2 o (m o ho)⟩
theorem rep_one {o : Int} (k : Nat) : (List.replicate k [V.int o]).flatten = (List.replicate k o).map V.int := by
  induction k with
  | zero => rfl
  | succ n ih => rw [List.replicate_succ, List.replicate_succ, List.flatten_cons, ih]; rfl
theorem rep_two {o u : Int} (k : Nat) : (List.replicate k [V.int o, .int u]).flatten = ((List.replicate k [o, u]).flatten).map V.int := by
  induction k with
  | zero => rfl
  | succ n ih => rw [List.replicate_succ, List.replicate_succ, List.flatten_cons, List.flatten_cons, ih]; rfl
section
variable {P : Program} {w : World} {K : PySem.W.Frag} {mg : Str → Option Value} {base : Heap} {A : Adr}
/-! ### _law_spoilt_data, _law_stream -/
def sp__law_spoilt_data : Sp := fun vs H Q _ => ∃ (p q : Addr) (n : Nat) (os : List Int), vs = [.ref p, .ref q] ∧ BgAt H p n ∧ n ≤ 500000 ∧ H q = some (.lst (os.map V.int)) ∧ q ≠ p ∧ OsOk 9000 os ∧ ∀ r os' H', H' r = some (.lst (os'.map V.int)) → r ≠ p → OsOk (os.length + os.length + 1) os' → Bg p (n + 10) H H' → Q (.ref r) H'
abbrev N__law_spoilt_data : List Str := ["_law_bag_here", "_law_data_here", "_law_at", "_law_octet", "_law_way"]
theorem sc__law_spoilt_data : FnScope N__law_spoilt_data ["_law_bag_here", "_law_data_here"] (defScope s__law_spoilt_data) := ⟨rfl, rfl, rfl, by decide +kernel, rfl, by decide +kernel, by decide +kernel⟩
theorem h__law_spoilt_data (T : Txt K w mg A) : Has CX0 P w K mg base "_law_spoilt_data" 3 ["_law_bag_here", "_law_data_here"] sp__law_spoilt_data := by
  refine has0 (k := 2) T.d__law_spoilt_data sc__law_spoilt_data (fun _ _ _ _ _ _ us hl => match us, hl with | [_, _], _ => rfl) (fun vs H Q E h => ?_) (fun f cdv A0 outer ss H vs Q XE hr h => ?_)
  · obtain ⟨p, q, n, os, rfl, _⟩ := h
    rfl
  · obtain ⟨p, q, n, os, rfl, hb, nn, hq, n_hq, hos, k⟩ := h
    refine ⟨_, ((pss_cons (ps_par (i := 2) (j := 3) (by rfl) sc__law_spoilt_data.nd rfl rfl (by decide) rfl rfl (pa_cons (pe_fn (h__law_take T) (hr.mono (by decide)) paN (pa_cons (pv 0) (pa_cons (pe_op op_add (pe_callB call_len_seq (by rfl) T.b_len PySem.boot_len (pa_cons (pv 1) pa_nil)) pe_int) pa_nil))) (pa_cons (pe_fn (h__law_pick T) (hr.mono (by decide)) paN (pa_cons (pv 0) (pa_cons (pe_lst (pa_cons pe_int (pa_cons pe_int (pa_cons pe_int (pa_cons pe_int (pa_cons pe_int (pa_cons pe_int (pa_cons pe_int (pa_cons pe_int (pa_cons pe_int (pa_cons pe_int (pa_cons pe_int pa_nil)))))))))))) pa_nil))) pa_nil)) (by rfl))
      (pss_cons (ps_set (i := 4) sc__law_spoilt_data.nd rfl (.inl rfl) (pe_fn (h__law_take T) (hr.mono (by decide)) paN (pa_cons (pv 0) (pa_cons pe_int pa_nil))))
      (pss_cons (ps_if (pt_cmpR op_eq (pv 4) pe_int (nomark _)) (pss_one (ps_ret (pe_slice sl_list (pv 1) po_none (po_some (pv 2))))) pss_nil)
      (pss_one (ps_ret (pe_op op_cat (pe_op op_cat (pe_slice sl_list (pv 1) po_none (po_some (pv 2))) (pe_op op_rep (pe_lst (pa_cons (pv 3) pa_nil)) (pe_callTy call_int1 (by rfl) T.b_int (by decide +kernel) (pa_cons (pe_cmpR op_ne (pv 4) pe_int (nomark _)) pa_nil)))) (pe_slice sl_list (pv 1) (po_some (pe_op op_add (pv 2) (pe_callTy call_int1 (by rfl) T.b_int (by decide +kernel) (pa_cons (pe_cmpR op_ne (pv 4) pe_int (nomark _)) pa_nil)))) po_none)))))))), ?_⟩
    have B0 := Bg.here hb
    have hos' : OsOk os.length os := ⟨Nat.le_refl _, hos.2⟩
    have hl := hos.1
    refine ⟨_, rfl, _, rfl, q, _, rfl, .inl (SqL.of hq), _, _, rfl, rfl, p, _, _, rfl, hb, by omega, by omega, by rw [List.length_map]; omega, fun a H1 a0 a1 bg1 => ?_⟩
    have B1 := bg1
    have hq := bg1.at hq n_hq
    refine ⟨_, rfl, by show 11 ≤ sizeLine; decide, fun l2 hl2 => ⟨p, l2, _, _, rfl, B1.1.ex (Ex.new hl2), by omega, B1.1.ne hl2, upd_same, (fun z => by cases z), by show 11 ≤ 1000; decide, fun x2 H2 hx2 bg2 => ?_⟩⟩
    have B2 := (B1.ex (Ex.new hl2)).tr bg2
    have hq := bg2.at (Ex.new hl2 _ _ hq) n_hq
    clear bg2 B1
    obtain ⟨x, rfl, xm, x0, x1⟩ := pick_int (l := [0,9,10,13,32,37,48,58,65,127,255]) (lo := 0) (hi := 255) (by decide) hx2
    refine ⟨_, _, rfl, ?_⟩
    refine ⟨_, rfl, p, _, 4, rfl, B2.1, by omega, by decide, by decide, fun t3 H3 t30 t31 bg3 => ?_⟩
    have B3 := B2.tr bg3
    have hq := bg3.at hq n_hq
    clear bg3 B2
    refine ⟨_, rfl, rfl, _, rfl, ?_⟩
    obtain ⟨o1, e1, k1⟩ := hos'.cut none (some a)
    refine ite2 (fun c1 => ?_) (fun c1 => ?_)
    · refine ⟨_, rfl, _, rfl, _, rfl, q, _, rfl, SqL.of hq, fun r hr => ?_⟩
      rw [e1]
      exact k r o1 _ upd_same (B3.1.ne hr) (k1.le (by omega)) ((B3.ex (Ex.new hr)).le (by omega))
    · refine ⟨_, rfl, _, rfl, _, rfl, q, _, rfl, SqL.of hq, fun r1 hr1 => ?_⟩
      rw [e1]
      have B4 := B3.ex (Ex.new (o := .lst (o1.map V.int)) hr1)
      have hq := Ex.new (o := .lst (o1.map V.int)) hr1 _ _ hq
      have f1 : (upd H3 r1 (.lst (o1.map V.int))) r1 = some (.lst (o1.map V.int)) := upd_same
      generalize upd H3 r1 (.lst (o1.map V.int)) = H4 at *
      refine ⟨_, rfl, by show 1 ≤ sizeLine; decide, fun l hl => ⟨_, rfl, rfl, .inr ⟨_, rfl, ?_⟩⟩⟩
      have B5 := B4.ex (Ex.new (o := .lst [.int x]) hl)
      have hq := Ex.new (o := .lst [.int x]) hl _ _ hq
      have f1 := Ex.new (o := .lst [.int x]) hl _ _ f1
      have f2 : (upd H4 l (.lst [.int x])) l = some (.lst [.int x]) := upd_same
      generalize upd H4 l (.lst [.int x]) = H5 at *
      have kb : ∀ b : Bool, (0 : Int) ≤ (if b = true then 1 else 0) ∧ (if b = true then (1 : Int) else 0) ≤ 1 := fun b => by cases b <;> decide
      refine ⟨l, _, _, rfl, rfl, f2, ?_, ?_, ?_, fun r2 hr2 => ?_⟩
      · exact Int.le_trans (by decide : -(2 ^ 63) ≤ (0 : Int)) (kb (!decide (V.int t3 = .int 1))).1
      · exact Int.lt_of_le_of_lt (kb (!decide (V.int t3 = .int 1))).2 (by decide : (1 : Int) < 2 ^ 63)
      · have := (kb (!decide (V.int t3 = .int 1))).2
        show 1 * Int.toNat (if (!decide (V.int t3 = .int 1)) = true then 1 else 0) ≤ sizeLine
        exact small (by omega)
      · rw [rep_one]
        have k2 : OsOk 1 (List.replicate (Int.toNat (if (!decide (V.int t3 = .int 1)) = true then 1 else 0)) x) := by
          refine ⟨by rw [List.length_replicate]; have := (kb (!decide (V.int t3 = .int 1))).2; omega, fun o ho => ?_⟩
          rw [List.eq_of_mem_replicate ho]
          omega
        generalize List.replicate (Int.toNat (if (!decide (V.int t3 = .int 1)) = true then 1 else 0)) x = o2 at *
        have B6 := B5.ex (Ex.new (o := .lst (o2.map V.int)) hr2)
        have hq := Ex.new (o := .lst (o2.map V.int)) hr2 _ _ hq
        have f1 := Ex.new (o := .lst (o2.map V.int)) hr2 _ _ f1
        have f2 : (upd H5 r2 (.lst (o2.map V.int))) r2 = some (.lst (o2.map V.int)) := upd_same
        generalize upd H5 r2 (.lst (o2.map V.int)) = H6 at *
        refine ⟨r1, r2, _, _, rfl, rfl, f1, f2, k1.sum k2 (by omega), fun r3 hr3 => ?_⟩
        have B7 := B6.ex (Ex.new (o := .lst (o1.map V.int ++ o2.map V.int)) hr3)
        have hq := Ex.new (o := .lst (o1.map V.int ++ o2.map V.int)) hr3 _ _ hq
        have f3 : (upd H6 r3 (.lst (o1.map V.int ++ o2.map V.int))) r3 = some (.lst ((o1 ++ o2).map V.int)) := by rw [upd_same, List.map_append]
        have k3 := k1.app k2
        generalize upd H6 r3 (.lst (o1.map V.int ++ o2.map V.int)) = H7 at *
        refine ⟨_, rfl, _, rfl, _, rfl, rfl, .inr ⟨_, rfl, _, _, rfl, rfl, _, rfl, q, _, rfl, SqL.of hq, fun r4 hr4 => ?_⟩⟩
        obtain ⟨o4, e4, k4⟩ := hos'.cut (some (a + (if (!decide (V.int t3 = .int 0)) = true then 1 else 0))) none
        rw [e4]
        have B8 := B7.ex (Ex.new (o := .lst (o4.map V.int)) hr4)
        have f3 := Ex.new (o := .lst (o4.map V.int)) hr4 _ _ f3
        refine ⟨r3, r4, _, _, rfl, rfl, f3, upd_same, k3.sum k4 (by omega), fun r5 hr5 => ?_⟩
        refine k r5 ((o1 ++ o2) ++ o4) _ ?_ (B8.1.ne hr5) ((k3.app k4).le (by omega)) ((B8.ex (Ex.new hr5)).le (by omega))
        rw [upd_same, List.map_append (l₁ := o1 ++ o2)]
def sp__law_stream : Sp := fun vs H Q _ => ∃ (p : Addr) (n : Nat) (kd : Str), vs = [.ref p, .str kd, .int 2] ∧ BgAt H p n ∧ n ≤ 200000 ∧ ∀ q os H', H' q = some (.lst (os.map V.int)) → q ≠ p → OsOk 2000 os → Bg p (n + 1000) H H' → Q (.ref q) H'
abbrev N__law_stream : List Str := ["_law_bag_here", "_law_kind", "_law_many", "_law_data_here", "_law_turn"]
theorem sc__law_stream : FnScope N__law_stream ["_law_bag_here", "_law_kind", "_law_many"] (defScope s__law_stream) := ⟨rfl, rfl, rfl, by decide +kernel, rfl, by decide +kernel, by decide +kernel⟩
theorem h__law_stream (T : Txt K w mg A) : Has CX0 P w K mg base "_law_stream" 6 ["_law_bag_here", "_law_kind", "_law_many"] sp__law_stream := by
  refine has0 (k := 5) T.d__law_stream sc__law_stream (fun _ _ _ _ _ _ us hl => match us, hl with | [_, _, _], _ => rfl) (fun vs H Q E h => ?_) (fun f cdv A0 outer ss H vs Q XE hr h => ?_)
  · obtain ⟨p, n, kd, rfl, _⟩ := h
    rfl
  · obtain ⟨p, n, kd, rfl, hb, nn, k⟩ := h
    refine ⟨_, ((pss_cons (ps_set (i := 3) sc__law_stream.nd rfl (.inl rfl) (pe_lst pa_nil))
      (pss_cons (ps_for PassesOwn.never rfl (pi_range1 (by rfl) T.b_range (pa_cons (pe_op op_add pe_int (pe_fn (h__law_take T) (hr.mono (by decide)) paN (pa_cons (pv 0) (pa_cons (pv 2) pa_nil)))) pa_nil)) (pg_name (i := 4) sc__law_stream.nd rfl (.inl rfl))
      (pss_cons (ps_if (PW.pt (pw_and (pt_cmpR op_eq (pv 1) pe_str (nomark _)) (pw_and1 (pt_cmpR op_eq (pe_fn (h__law_take T) (hr.mono (by decide)) paN (pa_cons (pv 0) (pa_cons pe_int pa_nil))) pe_int (nomark _))))) (pss_one (ps_set (i := 3) sc__law_stream.nd rfl (.inl rfl) (pe_op op_cat (pv 3) (pe_op op_rep (pe_lst (pa_cons pe_int (pa_cons pe_int pa_nil))) (pe_op op_add pe_int (pe_fn (h__law_take T) (hr.mono (by decide)) paN (pa_cons (pv 0) (pa_cons pe_int pa_nil)))))))) pss_nil)
      (pss_one (ps_set (i := 3) sc__law_stream.nd rfl (.inl rfl) (pe_op op_cat (pv 3) (pe_fn (h__law_one T) (hr.mono (by decide)) paN (pa_cons (pv 0) (pa_cons (pv 1) pa_nil))))))))
      (pss_cons (ps_for PassesOwn.never rfl (pi_range1 (by rfl) T.b_range (pa_cons (pe_fn (h__law_pick T) (hr.mono (by decide)) paN (pa_cons (pv 0) (pa_cons (pe_lst (pa_cons pe_int (pa_cons pe_int (pa_cons pe_int (pa_cons pe_int (pa_cons pe_int pa_nil)))))) pa_nil))) pa_nil)) (pg_name (i := 4) sc__law_stream.nd rfl (.inl rfl))
      (pss_one (ps_set (i := 3) sc__law_stream.nd rfl (.inl rfl) (pe_fn (h__law_spoilt_data T) (hr.mono (by decide)) paN (pa_cons (pv 0) (pa_cons (pv 3) pa_nil))))))
      (pss_one (ps_ret (pe_slice sl_list (pv 3) po_none (po_some pe_int)))))))), ?_⟩
    have B0 := Bg.here hb
    refine ⟨Nat.zero_le _, fun q0 hq0 => ?_⟩
    have hq : (upd H q0 (.lst [])) q0 = some (.lst (([] : List Int).map V.int)) := upd_same
    have n_hq := B0.1.ne hq0
    have B1 := B0.ex (Ex.new (o := .lst []) hq0)
    generalize upd H q0 (.lst []) = H1 at *
    refine ⟨_, rfl, _, rfl, p, _, 2, rfl, B1.1, by omega, by decide, by decide, fun t H2 t0 t1 bg2 => ?_⟩
    have B2 := B1.tr bg2
    have hq := bg2.at hq n_hq
    refine ⟨_, _, rfl, rfl, _, rfl, by omega, by omega, for_range (lo := 0) (n := (1 + t).toNat) (fun i σ H' => ∃ q os v4, σ = [some (.ref p), some (.str kd), some (.int 2), some (.ref q), v4] ∧ H' q = some (.lst (os.map V.int)) ∧ q ≠ p ∧ OsOk (2104 * i) os ∧ Bg p (n + 1 + 302 * i) H H') ⟨q0, [], _, rfl, hq, n_hq, ⟨Nat.le_refl _, fun o ho => by cases ho⟩, B2⟩ ?_ ?_⟩
    · rintro i σ H3 hi ⟨q, os, v4, rfl, hq, n_hq, hos, B3⟩
      have hi3 : i < 2 := by omega
      have one : ∀ (q : Addr) (os : List Int) (m : Nat) (H4 : Hp), H4 q = some (.lst (os.map V.int)) → q ≠ p → OsOk (2104 * i + 4) os → m ≤ n + 1 + 302 * i + 2 → Bg p m H H4 → ∀ Rn : V → Hp → Prop, (∀ q2 os2 H5, H5 q2 = some (.lst (os2.map V.int)) → q2 ≠ p → OsOk (2104 * (i + 1)) os2 → Bg p (n + 1 + 302 * (i + 1)) H H5 → Rn (.ref q2) H5) →
          sp__law_one [.ref p, .str kd] H4 (fun y H5 => rCat (.ref q) y H5 Rn) (fun _ _ _ => False) := fun q os m H4 hq n_hq hos hm B4 Rn hR => by
        refine ⟨p, m, kd, rfl, B4.1, by omega, fun r os2 H5 hr n_hr hos2 bg5 => ?_⟩
        have hq5 := bg5.at hq n_hq
        have B5 := B4.tr bg5
        refine ⟨q, r, _, _, rfl, rfl, hq5, hr, hos.sum hos2 (by omega), fun q2 hq2 => ?_⟩
        refine hR q2 (os ++ os2) _ ?_ (B5.1.ne hq2) ((hos.app hos2).le (by omega)) ((B5.ex (Ex.new hq2)).le (by omega))
        rw [upd_same, List.map_append]
      refine ⟨_, rfl, rfl, _, rfl, ?_⟩
      refine ite2 (fun c1 => ?_) (fun c1 => ?_)
      · refine ⟨_, rfl, p, _, 5, rfl, B3.1, by omega, by decide, by decide, fun t4 H4 t40 t41 bg4 => ?_⟩
        have B4 := B3.tr bg4
        have hq := bg4.at hq n_hq
        clear bg4 B3
        refine ⟨rfl, _, rfl, ?_⟩
        refine ite2 (fun c2 => ?_) (fun c2 => ?_)
        · refine ⟨_, rfl, by show 2 ≤ sizeLine; decide, fun l hl => ?_⟩
          have B5 := B4.ex (Ex.new (o := .lst [.int 13, .int 10]) hl)
          have n_hl := B4.1.ne hl
          have hq := Ex.new (o := .lst [.int 13, .int 10]) hl _ _ hq
          have f1 : (upd H4 l (.lst [.int 13, .int 10])) l = some (.lst [.int 13, .int 10]) := upd_same
          generalize upd H4 l (.lst [.int 13, .int 10]) = H5 at *
          refine ⟨_, rfl, p, _, 2, rfl, B5.1, by omega, by decide, by decide, fun t6 H6 t60 t61 bg6 => ?_⟩
          have B6 := B5.tr bg6
          have hq := bg6.at hq n_hq
          have f1 := bg6.at f1 n_hl
          refine ⟨_, _, rfl, rfl, l, _, _, rfl, rfl, f1, Int.le_trans (by decide : -(2 ^ 63) ≤ (0 : Int)) (by omega), Int.lt_of_le_of_lt (by omega : 1 + t6 ≤ 2) (by decide), ?_, fun r hr => ?_⟩
          · show 2 * (1 + t6).toNat ≤ sizeLine
            exact small (by omega)
          · rw [rep_two]
            have k2 : OsOk 4 ((List.replicate (1 + t6).toNat [(13 : Int), 10]).flatten) := by
              have h2 : (1 + t6).toNat = 1 ∨ (1 + t6).toNat = 2 := by omega
              rcases h2 with h2 | h2
              · rw [h2]
                exact ⟨by decide, by decide⟩
              · rw [h2]
                exact ⟨by decide, by decide⟩
            generalize (List.replicate (1 + t6).toNat [(13 : Int), 10]).flatten = o2 at *
            have B7 := B6.ex (Ex.new (o := .lst (o2.map V.int)) hr)
            have hq := Ex.new (o := .lst (o2.map V.int)) hr _ _ hq
            have f2 : (upd H6 r (.lst (o2.map V.int))) r = some (.lst (o2.map V.int)) := upd_same
            generalize upd H6 r (.lst (o2.map V.int)) = H7 at *
            refine ⟨q, r, _, _, rfl, rfl, hq, f2, hos.sum k2 (by omega), fun q2 hq2 => ?_⟩
            have B8 := B7.ex (Ex.new (o := .lst (os.map V.int ++ o2.map V.int)) hq2)
            have f3 : (upd H7 q2 (.lst (os.map V.int ++ o2.map V.int))) q2 = some (.lst ((os ++ o2).map V.int)) := by rw [upd_same, List.map_append]
            refine ⟨_, rfl, _, rfl, _, rfl, one q2 (os ++ o2) _ _ f3 (B7.1.ne hq2) ((hos.app k2).le (by omega)) (by omega) B8 _ fun q3 os3 H9 hq3 n3 hos3 B9 => ?_⟩
            exact ⟨q3, os3, _, rfl, hq3, n3, hos3, B9⟩
        · refine ⟨_, rfl, _, rfl, _, rfl, one q os _ H4 hq n_hq (hos.le (by omega)) (by omega) B4 _ fun q2 os2 H5 hq2 n2 hos2 B5 => ?_⟩
          exact ⟨q2, os2, _, rfl, hq2, n2, hos2, B5⟩
      · refine ⟨_, rfl, _, rfl, _, rfl, one q os _ H3 hq n_hq (hos.le (by omega)) (by omega) B3 _ fun q2 os2 H5 hq2 n2 hos2 B5 => ?_⟩
        exact ⟨q2, os2, _, rfl, hq2, n2, hos2, B5⟩
    · rintro σ H3 ⟨q, os, v4, rfl, hq, n_hq, hos, B3⟩
      refine ⟨_, rfl, by show 5 ≤ sizeLine; decide, fun l4 hl4 => ⟨p, l4, _, _, rfl, B3.1.ex (Ex.new hl4), by omega, B3.1.ne hl4, upd_same, (fun z => by cases z), by show 5 ≤ 1000; decide, fun x4 H4 hx4 bg4 => ?_⟩⟩
      have B4 := (B3.ex (Ex.new hl4)).tr bg4
      have hq := bg4.at (Ex.new hl4 _ _ hq) n_hq
      clear bg4 B3
      obtain ⟨y, rfl, ym, y0, y1⟩ := pick_int (l := [0,0,0,1,2]) (lo := 0) (hi := 2) (by decide) hx4
      have hos : OsOk 4208 os := hos.le (by omega)
      refine ⟨_, rfl, by omega, by omega, for_range (lo := 0) (n := y.toNat) (fun i σ H' => ∃ q os v4, σ = [some (.ref p), some (.str kd), some (.int 2), some (.ref q), v4] ∧ H' q = some (.lst (os.map V.int)) ∧ q ≠ p ∧ OsOk (if i = 0 then 4208 else if i = 1 then 8417 else 16835) os ∧ Bg p (n + 1 + 302 * 2 + 1 + 10 * i) H H') ⟨q, os, _, rfl, hq, n_hq, hos, B4.le (by omega)⟩ ?_ ?_⟩
      · rintro i σ H5 hi ⟨q, os, v4, rfl, hq, n_hq, hos, B5⟩
        have hi2 : i = 0 ∨ i = 1 := by omega
        have hos9 : OsOk 9000 os := hos.le (by rcases hi2 with h | h <;> rw [h] <;> decide)
        refine ⟨_, rfl, _, rfl, p, q, _, os, rfl, B5.1, by omega, hq, n_hq, hos9, fun r os2 H6 hr n_hr hos2 bg6 => ?_⟩
        refine ⟨r, os2, _, rfl, hr, n_hr, hos2.le ?_, (B5.tr bg6).le (by omega)⟩
        have := hos.1
        rcases hi2 with h | h
        · subst h
          show os.length + os.length + 1 ≤ 8417
          have : os.length ≤ 4208 := this
          omega
        · subst h
          show os.length + os.length + 1 ≤ 16835
          have : os.length ≤ 8417 := this
          omega
      · rintro σ H5 ⟨q, os, v4, rfl, hq, n_hq, hos, B5⟩
        refine ⟨_, rfl, _, rfl, q, _, rfl, SqL.of hq, fun r hr => ?_⟩
        have ec : cutV (os.map V.int) none (some 2000) = (os.take 2000).map V.int := cut_take os 2000
        rw [ec]
        refine k r (os.take 2000) _ upd_same (B5.1.ne hr) ⟨by rw [List.length_take]; omega, fun o ho => hos.2 o (List.mem_of_mem_take ho)⟩ ((B5.ex (Ex.new hr)).le (by omega))
end
end K32

namespace K32
open PySem PySem.Spec PyProof.Rows L2
theorem Bg.tk {H H1 : Hp} {p : Addr} {n m : Nat} (a : Bg p n H H1) (h : BgAt H p m) : Tk H H1 := fun b xs hb => a.at hb fun z => by
  obtain ⟨ys, h1⟩ := h.some
  rw [z, h1] at hb
  cases hb
theorem upd_none {H : Hp} {a q : Addr} {o : HO} (h : (upd H a o) q = none) : H q = none := by
  by_cases e : q = a
  · rw [e, upd_same] at h
    cases h
  · rw [upd_ne e] at h
    exact h
def AskOk (m : Ask) : Prop := isTok m.method = true ∧ m.method.length ≤ 300
section
variable {P : Program} {w : World} {K : PySem.W.Frag} {mg : Str → Option Value} {base : Heap} {A : Adr}
/-! ### _law_asks, _law_reader -/
def sp__law_asks : Sp := fun vs H Q _ => ∃ (p : Addr) (n : Nat) (kd : Str), vs = [.ref p, .str kd] ∧ BgAt H p n ∧ n ≤ 500000 ∧ ∀ q asks H', AL H' q asks → q ≠ p → asks.length ≤ 10 → (∀ m ∈ asks, AskOk m) → (kd = REQS → asks = []) → Bg p (n + 30) H H' → Q (.ref q) H'
abbrev N__law_asks : List Str := ["_law_bag_here", "_law_kind", "_law_methods", "_law_many", "_law_turn"]
theorem sc__law_asks : FnScope N__law_asks ["_law_bag_here", "_law_kind"] (defScope s__law_asks) := ⟨rfl, rfl, rfl, by decide +kernel, rfl, by decide +kernel, by decide +kernel⟩
theorem meth_ok : (["GET", "GET", "POST", "HEAD", "CONNECT", "head"] : List Str).all (fun z => isTok z && decide (z.length ≤ 300)) = true := by decide +kernel
theorem h__law_asks (T : Txt K w mg A) : Has CX0 P w K mg base "_law_asks" 3 ["_law_bag_here", "_law_kind"] sp__law_asks := by
  refine has0 (k := 2) T.d__law_asks sc__law_asks (fun _ _ _ _ _ _ us hl => match us, hl with | [_, _], _ => rfl) (fun vs H Q E h => ?_) (fun f cdv A0 outer ss H vs Q XE hr h => ?_)
  · obtain ⟨p, n, kd, rfl, _⟩ := h
    rfl
  · obtain ⟨p, n, kd, rfl, hb, nn, k⟩ := h
    refine ⟨_, ((pss_cons (ps_if (pt_cmpR op_eq (pv 1) pe_str (nomark _)) (pss_one (ps_ret (pe_lst pa_nil))) pss_nil)
      (pss_cons (ps_set (i := 2) sc__law_asks.nd rfl (.inr rfl) (pe_lst (pa_cons pe_str (pa_cons pe_str (pa_cons pe_str (pa_cons pe_str (pa_cons pe_str (pa_cons pe_str pa_nil))))))))
      (pss_cons (ps_set (i := 3) sc__law_asks.nd rfl (.inl rfl) (pe_fn (h__law_pick T) (hr.mono (by decide)) paN (pa_cons (pv 0) (pa_cons (pe_lst (pa_cons pe_int (pa_cons pe_int (pa_cons pe_int (pa_cons pe_int (pa_cons pe_int pa_nil)))))) pa_nil))))
      (pss_one (ps_ret (pe_lc (own := [("_law_turn", 4)]) (g := gName 4) (tt := tYes) rfl sc__law_asks.nd (pi_range1 (by rfl) T.b_range (pa_cons (pv 3) pa_nil)) (blkOk_by (N := N__law_asks) (sc := defScope s__law_asks) (by decide +kernel)) (fun _ _ _ _ _ => pg_name (i := 4) sc__law_asks.nd rfl (Or.inl rfl)) (fun _ _ _ _ _ => pts_nil) (fun _ _ _ _ _ => (pe_tup (pa_cons (pe_fn (h__law_pick T) (hr.mono (by decide)) paN (pa_cons (pv 0) (pa_cons (pv 2) pa_nil))) (pa_cons (pe_cmpR op_eq (pe_fn (h__law_take T) (hr.mono (by decide)) paN (pa_cons (pv 0) (pa_cons pe_int pa_nil))) pe_int (nomark _)) (pa_cons (pe_cmpR op_eq (pe_fn (h__law_take T) (hr.mono (by decide)) paN (pa_cons (pv 0) (pa_cons pe_int pa_nil))) pe_int (nomark _)) pa_nil)))))))))))), ?_⟩
    have B0 := Bg.here hb
    refine ⟨_, rfl, rfl, _, rfl, ?_⟩
    rw [dec_vs]
    refine ite2 (fun c1 => ?_) (fun c1 => ?_)
    · refine ⟨Nat.zero_le _, fun q hq => ?_⟩
      exact k q [] _ ⟨[], upd_same, .nil⟩ (B0.1.ne hq) (Nat.zero_le _) (fun m hm => by cases hm) (fun _ => rfl) ((B0.ex (Ex.new hq)).le (by omega))
    · refine ⟨by show 6 ≤ sizeLine; decide, fun la hla => ?_⟩
      have ea : (upd H la (.lst [.str "GET", .str "GET", .str "POST", .str "HEAD", .str "CONNECT", .str "head"])) la = some (.lst ((["GET", "GET", "POST", "HEAD", "CONNECT", "head"] : List Str).map V.str)) := upd_same
      have e1 := Ex.new (o := .lst [.str "GET", .str "GET", .str "POST", .str "HEAD", .str "CONNECT", .str "head"]) hla
      generalize upd H la (.lst [.str "GET", .str "GET", .str "POST", .str "HEAD", .str "CONNECT", .str "head"]) = Ha at *
      have n_ea := B0.1.ne hla
      have B1 := B0.ex e1
      refine ⟨_, rfl, by show 5 ≤ sizeLine; decide, fun l2 hl2 => ⟨p, l2, _, _, rfl, B1.1.ex (Ex.new hl2), by omega, B1.1.ne hl2, upd_same, (fun z => by cases z), by show 5 ≤ 1000; decide, fun x2 H2 hx2 bg2 => ?_⟩⟩
      have B2 := (B1.ex (Ex.new hl2)).tr bg2
      have ea := bg2.at (Ex.new hl2 _ _ ea) n_ea
      clear bg2 B1
      obtain ⟨y, rfl, ym, y0, y1⟩ := pick_int (l := [0,1,3,5,5]) (lo := 0) (hi := 5) (by decide) hx2
      refine ⟨_, rfl, _, rfl, by omega, by omega, fun D hD => ?_⟩
      have n_D := B2.1.ne hD
      have nDa : la ≠ D := ne_of_none ea hD
      refine lc_it walk_range (fun i H' => Bg p (n + 1 + 3 * i) H H' ∧ H' la = some (.lst ((["GET", "GET", "POST", "HEAD", "CONNECT", "head"] : List Str).map V.str)) ∧ ∃ xs as, H' D = some (.lst xs) ∧ Paired (AskAt H') xs as ∧ as.length = i ∧ ∀ m ∈ as, AskOk m)
        ⟨B2.ex (Ex.new hD), Ex.new hD _ _ ea, [], [], upd_same, .nil, rfl, fun m hm => by cases hm⟩ (fun _ _ _ _ => trivial) ?_ ?_
      · rintro i x H3 H' hi ⟨B3, ea, xs, as, hx, px, la', ok⟩ ⟨e, ex⟩
        have e2 : H' = H3 := e
        subst e2
        have hi5 : i < 5 := by omega
        have ht : ∀ (σ : St) (H : Hp) (R : Bool → Hp → Prop), R true H → tYes σ H R := fun _ _ _ r => r
        refine ⟨rfl, ht _ _ _ ?_⟩
        rw [if_pos rfl]
        refine ⟨_, rfl, _, rfl, p, la, _, _, rfl, B3.1, by omega, n_ea, ea, (fun z => by cases z), by show 6 ≤ 1000; decide, fun x4 H4 hx4 bg4 => ?_⟩
        have B4 := B3.tr bg4
        have T4 := bg4.tk B3.1
        have ea := bg4.at ea n_ea
        have hx := bg4.at hx n_D
        obtain ⟨z, hzm, rfl⟩ := List.mem_map.mp (show x4 ∈ (["GET", "GET", "POST", "HEAD", "CONNECT", "head"] : List Str).map V.str from hx4)
        have zok := List.all_eq_true.mp meth_ok z hzm
        rw [Bool.and_eq_true, decide_eq_true_eq] at zok
        refine ⟨_, rfl, p, _, 4, rfl, B4.1, by omega, by decide, by decide, fun t5 H5 t50 t51 bg5 => ⟨rfl, ?_⟩⟩
        have B5 := B4.tr bg5
        have T5 := T4.tr (bg5.tk B4.1)
        have ea := bg5.at ea n_ea
        have hx := bg5.at hx n_D
        refine ⟨_, rfl, p, _, 6, rfl, B5.1, by omega, by decide, by decide, fun t6 H6 t60 t61 bg6 => ⟨rfl, ?_⟩⟩
        have B6 := B5.tr bg6
        have T6 := T5.tr (bg6.tk B5.1)
        have ea := bg6.at ea n_ea
        have hx := bg6.at hx n_D
        refine ⟨by show 3 ≤ sizeLine; decide, fun t ht => ?_⟩
        have e7 := Ex.new (o := .tup [.str z, .bl (decide (V.int t5 = .int 0)), .bl (decide (V.int t6 = .int 0))]) ht
        have f7 : (upd H6 t (.tup [.str z, .bl (decide (V.int t5 = .int 0)), .bl (decide (V.int t6 = .int 0))])) t = some (.tup [.str z, .bl (decide (V.int t5 = .int 0)), .bl (decide (V.int t6 = .int 0))]) := upd_same
        have B7 := B6.ex e7
        have T7 := T6.tr (Tk.of e7)
        have ea := e7 _ _ ea
        have hx := e7 _ _ hx
        generalize upd H6 t (.tup [.str z, .bl (decide (V.int t5 = .int 0)), .bl (decide (V.int t6 = .int 0))]) = H7 at *
        have lx := px.length
        refine ⟨xs, hx, Nat.lt_of_le_of_lt (by omega : xs.length ≤ 5) (by decide), ?_⟩
        have T8 : Tk H7 (upd H7 D (.lst (xs ++ [.ref t]))) := Tk.upd hx (fun _ z => by cases z)
        refine ⟨(B7.upd (B2.free hD) n_D).le (by omega), (upd_ne nDa).trans ea, xs ++ [.ref t], as ++ [⟨z, decide (V.int t5 = .int 0), decide (V.int t6 = .int 0)⟩], upd_same, ?_, ?_, ?_⟩
        · exact Paired.snoc (L2.Paired.mapP px fun _ _ q => (q.mono T7).mono T8) ⟨t, rfl, T8 _ _ f7⟩
        · rw [List.length_append, la']
          rfl
        · intro m hm
          rcases List.mem_append.mp hm with h | h
          · exact ok m h
          · rw [List.mem_singleton.mp h]
            exact ⟨zok.1, zok.2⟩
      · rintro H3 ⟨B3, ea, xs, as, hx, px, la', ok⟩
        exact k D as H3 ⟨xs, hx, px⟩ n_D (by omega) ok (fun h => absurd h (by simpa using c1)) (B3.le (by omega))
def sp__law_reader : Sp := fun vs H Q _ => ∃ (pb l0 : Addr) (kd : Str) (b : Bk) (asks : List Ask), vs = [.str kd, .ref pb, .ref l0] ∧ (kd = REQS ∨ kd = RESPS) ∧ BookAt A H pb b ∧ AL H l0 asks ∧ asks.length ≤ 10 ∧ (∀ m ∈ asks, AskOk m) ∧ (kd = REQS → asks = []) ∧
  ∀ x R H', RdP A H' x kd R b { rs0 with asks := asks } → Ex H H' → (∀ a ∈ ownP x R, H a = none) → Q (.ref x) H'
abbrev N__law_reader : List Str := ["_law_kind", "_law_rules", "_law_asks_here", "_law_reader_here", "_law_verb", "_law_wish", "_law_end"]
theorem sc__law_reader : FnScope N__law_reader ["_law_kind", "_law_rules", "_law_asks_here"] (defScope s__law_reader) := ⟨rfl, rfl, rfl, by decide +kernel, rfl, by decide +kernel, by decide +kernel⟩
theorem h__law_reader (T : Txt K w mg A) : Has CX0 P w K mg base "_law_reader" 6 ["_law_kind", "_law_rules", "_law_asks_here"] (sp__law_reader (A := A)) := by
  refine has0 (k := 5) T.d__law_reader sc__law_reader (fun _ _ _ _ _ _ us hl => match us, hl with | [_, _, _], _ => rfl) (fun vs H Q E h => ?_) (fun f cdv A0 outer ss H vs Q XE hr h => ?_)
  · obtain ⟨pb, l0, kd, b, asks, rfl, _⟩ := h
    rfl
  · obtain ⟨pb, l0, kd, b, asks, rfl, hkk, ⟨bdx, hpb⟩, ⟨xs, hx0, px⟩, al, aok, areq, k⟩ := h
    refine ⟨_, ((pss_cons (ps_set (i := 3) sc__law_reader.nd rfl (.inl rfl) (pe_mkK (hi_Reader T) (hr.mono (by decide)) (pa_cons (pv 0) pa_nil) (pk_cons (pv 1) pk_nil)))
      (pss_cons (ps_for PassesOwn.never rfl (pi_list (pv 2)) (pg_tup (by rfl) (pgs_cons (pg_name (i := 4) sc__law_reader.nd rfl (.inl rfl)) (pgs_cons (pg_name (i := 5) sc__law_reader.nd rfl (.inl rfl)) (pgs_cons (pg_name (i := 6) sc__law_reader.nd rfl (.inl rfl)) pgs_nil))))
      (pss_one (ps_expr (pe_mtK (pv 3) T.cl_Reader (h_Reader_expect T) (hr.mono (by decide)) paN (pa_cons (pv 4) pa_nil) (pk_cons (pv 5) (pk_cons (pv 6) pk_nil))))))
      (pss_one (ps_ret (pv 3)))))), ?_⟩
    refine ⟨_, rfl, _, rfl, rfl, rfl, fun x dx hx hdx ne => ⟨x, kd, pb, b, dx, rfl, hkk, ?_, upd_same, fun R H2 hR g2 hfree => ⟨rfl, ?_⟩⟩⟩
    · exact ⟨bdx, by rw [upd_ne (ne_of_none hpb hx), upd_ne (ne_of_none hpb hdx)]; exact hpb⟩
    · have e2 : Ex H H2 := mk_ex2 hx hdx g2
      have own : ∀ a ∈ ownP x R, H a = none := fun a ha => by
        simp only [List.mem_cons, List.not_mem_nil, or_false] at ha
        rcases ha with rfl | rfl | rfl | rfl
        · exact hx
        · exact upd_none (upd_none hfree.1)
        · exact upd_none (upd_none hfree.2.1)
        · exact upd_none (upd_none hfree.2.2)
      have keep : ∀ H', Kept (ownP x R) H2 H' → Ex H H' := fun H' kp a o ha => kp a o (e2 _ _ ha) fun hm => by
        rw [own a hm] at ha
        cases ha
      have hx2 := e2 _ _ hx0
      refine ⟨_, rfl, l0, rfl, ⟨_, SqL.of hx2⟩, for_it (G := fun H => SqL K H l0 xs) walk_list (fun i σ H' => ∃ v4 v5 v6, σ = [some (.str kd), some (.ref pb), some (.ref l0), some (.ref x), v4, v5, v6] ∧ RdP A H' x kd R b { rs0 with asks := asks.take i } ∧ Kept (ownP x R) H2 H') ⟨_, _, _, rfl, hR, Kept.rfl'⟩ ?_ ?_ ?_⟩
      · rintro i σ H' _ ⟨v4, v5, v6, rfl, hR', kp⟩
        exact SqL.of (keep _ kp _ _ hx0)
      · rintro i y σ H3 H' hi ⟨v4, v5, v6, rfl, hR', kp⟩ ⟨e, hy⟩
        have e' : H' = H3 := e
        subst e'
        obtain ⟨m, hm, t, rfl, ht⟩ := Paired.at px hy
        have ht' := keep _ kp _ _ ht
        have hk : kd = RESPS := hkk.resolve_left fun q => by
          rw [areq q] at hm
          cases hm
        subst hk
        obtain ⟨dx', hp'⟩ := hR'.at_
        have hmem := List.mem_of_getElem? hm
        refine ⟨t, _, rfl, SqT.of ht', rfl, _, _, rfl, _, _, rfl, _, _, rfl, rfl, ?_⟩
        refine ⟨_, rfl, x, dx', _, rfl, hp', rfs_no_expect _ _ _, _, rfl, _, rfl, _, rfl, rfl, rfl, x, R, b, _, m, rfl, hR', (aok m hmem).1, (aok m hmem).2, by show (asks.take i).length ≤ 1000; rw [List.length_take]; omega, fun H4 hR4 k4 => ?_⟩
        refine ⟨_, _, _, rfl, ?_, kp.tr k4⟩
        have et : asks.take (i + 1) = asks.take i ++ [m] := by
          rw [List.take_succ, hm]
          rfl
        rw [et]
        exact hR4
      · rintro σ H' ⟨v4, v5, v6, rfl, hR', kp⟩
        have lx := px.length
        rw [lx, List.take_length] at hR'
        exact ⟨_, rfl, k x R H' hR' (keep _ kp) own⟩
end
end K32

namespace K32
open PySem PySem.Spec PyProof.Rows L2
/-! ### the plain law: the reader's state stays well formed -/
structure WfB (kd : Str) (b : Bk) (s : RS) : Prop where
  kk : kd = REQS ∨ kd = RESPS
  bk : BkOk b
  fs : OkFs s.fields
  fb : (s.fields.length : Int) ≤ b.fields
  ln : (s.line.length : Int) ≤ b.line
  lo : ∀ x ∈ s.line, octB x = true
theorem size_no : ¬ (("size" : Str) = "length" ∨ ("size" : Str) = "chunk") := by decide +kernel
theorem rest_no : ¬ (("rest" : Str) = "length" ∨ ("rest" : Str) = "chunk") := by decide +kernel
theorem cend_no : ¬ (("chunk end" : Str) = "length" ∨ ("chunk end" : Str) = "chunk") := by decide +kernel
section
variable {kd : Str} {b : Bk} {s : RS}
theorem WfR.wb (w : WfR kd b s) : WfB kd b s := ⟨w.kk, w.bk, w.fs, w.fb, w.ln, w.lo⟩
theorem wf_still (h : WfB kd b s) (n : s.now = "waiting" ∨ s.now = "over" ∨ s.now = "raw" ∨ s.now = "wrong") : WfR kd b s := by
  have n1 : s.now ≠ "start" := by rcases n with n | n | n | n <;> rw [n] <;> decide +kernel
  have n2 : s.now ≠ "head" := by rcases n with n | n | n | n <;> rw [n] <;> decide +kernel
  have n3 : s.now ≠ "body" := by rcases n with n | n | n | n <;> rw [n] <;> decide +kernel
  exact ⟨h.kk, h.bk, h.fs, h.fb, h.ln, h.lo, .inr (.inr (.inr n)), fun _ z => (z.elim n2 n3).elim, fun z => (n2 z).elim, fun z => (n3 z).elim, fun z => (n3 z).elim, fun z => (n2 z).elim, fun z => (n1 z).elim⟩
theorem wf_start (h : WfB kd b s) (n : s.now = "start") (p : s.part = "") : WfR kd b s := by
  have n2 : s.now ≠ "head" := by rw [n]; decide +kernel
  have n3 : s.now ≠ "body" := by rw [n]; decide +kernel
  exact ⟨h.kk, h.bk, h.fs, h.fb, h.ln, h.lo, .inl n, fun _ z => (z.elim n2 n3).elim, fun z => (n2 z).elim, fun z => (n3 z).elim, fun z => (n3 z).elim, fun z => (n2 z).elim, fun _ => p⟩
theorem wf_head (h : WfB kd b s) (n : s.now = "head") (p : s.part = "") (a : kd = RESPS → s.asks ≠ []) (st : StOk kd s.start) : WfR kd b s := by
  have n1 : s.now ≠ "start" := by rw [n]; decide +kernel
  have n3 : s.now ≠ "body" := by rw [n]; decide +kernel
  exact ⟨h.kk, h.bk, h.fs, h.fb, h.ln, h.lo, .inr (.inl n), fun k _ => a k, fun _ => st, fun z => (n3 z).elim, fun z => (n3 z).elim, fun _ => p, fun z => (n1 z).elim⟩
theorem wf_body (h : WfB kd b s) (n : s.now = "body") (a : kd = RESPS → s.asks ≠ []) (bp : s.part = "length" ∨ s.part = "chunk" ∨ s.part = "rest" ∨ s.part = "size" ∨ s.part = "chunk end" ∨ s.part = "trailers") (lf : (s.part = "length" ∨ s.part = "chunk") → 1 ≤ s.left) : WfR kd b s := by
  have n1 : s.now ≠ "start" := by rw [n]; decide +kernel
  have n2 : s.now ≠ "head" := by rw [n]; decide +kernel
  exact ⟨h.kk, h.bk, h.fs, h.fb, h.ln, h.lo, .inr (.inr (.inl n)), fun k _ => a k, fun z => (n2 z).elim, fun _ => bp, fun _ => lf, fun z => (n2 z).elim, fun z => (n1 z).elim⟩
theorem wf_end (h : WfB kd b s) (fs : List Fld) : WfR kd b (endMsg kd s fs).1 := by
  unfold endMsg
  by_cases hk : kd = RESPS
  · rw [if_pos hk]
    by_cases q : (s.last || (s.asks.headD ⟨"", false, false⟩).last) = true
    · refine wf_still ⟨h.kk, h.bk, h.fs, h.fb, h.ln, h.lo⟩ (.inr (.inl ?_))
      show (if (s.last || (s.asks.headD ⟨"", false, false⟩).last) = true then ("over" : Str) else "start") = "over"
      rw [if_pos q]
    · refine wf_start ⟨h.kk, h.bk, h.fs, h.fb, h.ln, h.lo⟩ ?_ rfl
      show (if (s.last || (s.asks.headD ⟨"", false, false⟩).last) = true then ("over" : Str) else "start") = "start"
      rw [if_neg q]
  · rw [if_neg hk]
    by_cases q : s.msg.sw = true
    · rw [if_pos q]
      exact wf_still ⟨h.kk, h.bk, h.fs, h.fb, h.ln, h.lo⟩ (.inl rfl)
    · rw [if_neg q]
      by_cases q2 : s.last = true
      · refine wf_still ⟨h.kk, h.bk, h.fs, h.fb, h.ln, h.lo⟩ (.inr (.inl ?_))
        show (if s.last = true then ("over" : Str) else "start") = "over"
        rw [if_pos q2]
      · refine wf_start ⟨h.kk, h.bk, h.fs, h.fb, h.ln, h.lo⟩ ?_ rfl
        show (if s.last = true then ("over" : Str) else "start") = "start"
        rw [if_neg q2]
theorem wf_begin (h : WfB kd b s) (a : kd = RESPS → s.asks ≠ []) {fr : Fr} (hf : ∀ z, fr = .len z → 0 ≤ z) : WfR kd b (beginBody kd s fr).1 := by
  cases fr with
  | info => exact wf_start ⟨h.kk, h.bk, h.fs, h.fb, h.ln, h.lo⟩ rfl rfl
  | chunked => exact wf_body ⟨h.kk, h.bk, h.fs, h.fb, h.ln, h.lo⟩ rfl a (.inr (.inr (.inr (.inl rfl)))) (fun z => absurd z size_no)
  | close => exact wf_body ⟨h.kk, h.bk, h.fs, h.fb, h.ln, h.lo⟩ rfl a (.inr (.inr (.inl rfl))) (fun z => absurd z rest_no)
  | switch =>
    have w := (wf_end (s := { s with now := "body", part := "" }) ⟨h.kk, h.bk, h.fs, h.fb, h.ln, h.lo⟩ []).wb
    exact wf_still ⟨w.kk, w.bk, w.fs, w.fb, w.ln, w.lo⟩ (.inr (.inr (.inl rfl)))
  | len n =>
    have h0 := hf n rfl
    unfold beginBody
    by_cases q : n = 0
    · simp only [q, if_true]
      exact wf_end (s := { s with now := "body", part := "" }) ⟨h.kk, h.bk, h.fs, h.fb, h.ln, h.lo⟩ []
    · simp only [q, if_false]
      exact wf_body ⟨h.kk, h.bk, h.fs, h.fb, h.ln, h.lo⟩ rfl a (.inl rfl) (fun _ => by show 1 ≤ n; omega)
theorem WfB.wrong (h : WfB kd b s) : WfR kd b { s with now := "wrong" } := wf_still ⟨h.kk, h.bk, h.fs, h.fb, h.ln, h.lo⟩ (.inr (.inr (.inr rfl)))
theorem no_flds (hb : BkOk b) : OkFs [] ∧ ((([] : List Fld).length : Nat) : Int) ≤ b.fields := ⟨⟨Nat.zero_le _, fun f hf => by cases hf⟩, by have := hb.f1; show (0 : Int) ≤ b.fields; omega⟩
/-- a whole line -/
theorem wf_line (w : WfR kd b s) (ha : s.now = "start" → kd = RESPS → s.asks ≠ []) (hn : s.now = "start" ∨ s.now = "head" ∨ s.now = "body") (hb : s.now = "body" → s.part = "size" ∨ s.part = "trailers") {z : Str} (hz : z.length ≤ 200) :
    match readLine kd b s z with
    | .ok r => WfR kd b r.1
    | .error (s1, _) => WfB kd b s1 := by
  have h := w.wb
  obtain ⟨g1, g2⟩ := no_flds w.bk
  unfold readLine
  by_cases c1 : s.part = "size"
  · rw [if_pos c1]
    have hbody : s.now = "body" := by
      rcases hn with q | q | q
      · have := w.sp q
        rw [c1] at this
        exact absurd this (by decide +kernel)
      · have := w.hp q
        rw [c1] at this
        exact absurd this (by decide +kernel)
      · exact q
    cases mSize z with
    | error k => exact h
    | ok n =>
      refine wf_body ⟨h.kk, h.bk, g1, g2, h.ln, h.lo⟩ hbody (fun k => w.as k (.inr hbody)) ?_ ?_
      · show (if 0 < n then ("chunk" : Str) else "trailers") = "length" ∨ (if 0 < n then ("chunk" : Str) else "trailers") = "chunk" ∨ (if 0 < n then ("chunk" : Str) else "trailers") = "rest" ∨ (if 0 < n then ("chunk" : Str) else "trailers") = "size" ∨ (if 0 < n then ("chunk" : Str) else "trailers") = "chunk end" ∨ (if 0 < n then ("chunk" : Str) else "trailers") = "trailers"
        by_cases q : 0 < n
        · rw [if_pos q]
          exact .inr (.inl rfl)
        · rw [if_neg q]
          exact .inr (.inr (.inr (.inr (.inr rfl))))
      · show ((if 0 < n then ("chunk" : Str) else "trailers") = "length" ∨ (if 0 < n then ("chunk" : Str) else "trailers") = "chunk") → 1 ≤ n
        by_cases q : 0 < n
        · exact fun _ => q
        · rw [if_neg q]
          exact fun z => absurd z (by decide +kernel)
  · rw [if_neg c1]
    by_cases c2 : s.now = "start"
    · rw [if_pos c2]
      by_cases c3 : z = "" ∧ kd = REQS
      · rw [if_pos c3]
        exact w
      · rw [if_neg c3]
        cases q : mStart kd z with
        | error k => exact h
        | ok st => exact wf_head ⟨h.kk, h.bk, g1, g2, h.ln, h.lo⟩ rfl (w.sp c2) (ha c2) (mStart_st w.kk q)
    · rw [if_neg c2]
      by_cases c3 : z ≠ ""
      · rw [if_pos c3]
        cases q : mField z with
        | none => exact h
        | some f =>
          by_cases c4 : (s.fields.length : Int) = b.fields
          · show match (if (s.fields.length : Int) = b.fields then (.ok (failM "many" s) : OutX) else .ok ({ s with fields := s.fields ++ [f] }, [])) with | .ok r => WfR kd b r.1 | .error (s1, _) => WfB kd b s1
            rw [if_pos c4]
            exact h.wrong
          · show match (if (s.fields.length : Int) = b.fields then (.ok (failM "many" s) : OutX) else .ok ({ s with fields := s.fields ++ [f] }, [])) with | .ok r => WfR kd b r.1 | .error (s1, _) => WfB kd b s1
            rw [if_neg c4]
            have fb := h.fb
            have f2 := h.bk.f2
            have el : (s.fields ++ [f]).length = s.fields.length + 1 := by simp
            have nb : WfB kd b { s with fields := s.fields ++ [f] } := ⟨h.kk, h.bk, ⟨by show (s.fields ++ [f]).length ≤ 20; omega, fun x hx => by
              rcases List.mem_append.mp hx with hx | hx
              · exact h.fs.2 x hx
              · rw [List.mem_singleton.mp hx]
                exact mField_ok hz q⟩, by show (((s.fields ++ [f]).length : Nat) : Int) ≤ b.fields; omega, h.ln, h.lo⟩
            rcases hn with q | q | q
            · exact absurd q c2
            · exact wf_head nb q (w.hp q) (fun k => w.as k (.inl q)) (w.st q)
            · exact wf_body nb q (fun k => w.as k (.inr q)) (w.bp q) (w.lf q)
      · rw [if_neg c3]
        by_cases c4 : s.part = "trailers"
        · rw [if_pos c4]
          exact wf_end h _
        · rw [if_neg c4]
          have hhead : s.now = "head" := by
            rcases hn with q | q | q
            · exact absurd q c2
            · exact q
            · rcases hb q with z | z
              · exact absurd z c1
              · exact absurd z c4
          have hS : WfB kd b (headS kd b s s.fields) := ⟨h.kk, h.bk, h.fs, h.fb, h.ln, h.lo⟩
          cases q : headFr kd b s.start s.fields (s.asks.headD ⟨"", false, false⟩) with
          | error k =>
            have e : endHead kd b s s.fields = .error ({ s with last := !persB s.start.ver s.fields b }, k) := by
              unfold endHead
              rw [q]
            rw [e]
            exact ⟨h.kk, h.bk, h.fs, h.fb, h.ln, h.lo⟩
          | ok fr =>
            rw [endHead_ok q]
            exact wf_begin hS (fun k => w.as k (.inl hhead)) (headFr_ok w.kk w.bk q).2.2
theorem WfR.with (w : WfR kd b s) (c : Int) (e : Bool) : WfR kd b { s with count := c, ending := e } := ⟨w.kk, w.bk, w.fs, w.fb, w.ln, w.lo, w.nw, w.as, w.st, w.bp, w.lf, w.hp, w.sp⟩
theorem wf_octet (w : WfR kd b s) (nr : s.now ≠ "raw") (nw : s.now ≠ "wrong") (nb : ¬ (s.now = "body" ∧ (s.part = "length" ∨ s.part = "chunk" ∨ s.part = "rest"))) (o : Int) : WfR kd b (readOctet kd b s o).1 := by
  have h := w.wb
  unfold readOctet
  by_cases c1 : s.now = "waiting" ∨ s.now = "over"
  · rw [if_pos c1]
    exact h.wrong
  · rw [if_neg c1]
    by_cases c2 : s.now = "start" ∧ kd = RESPS ∧ s.asks = []
    · rw [if_pos c2]
      exact h.wrong
    · rw [if_neg c2]
      have hn : s.now = "start" ∨ s.now = "head" ∨ s.now = "body" := by
        rcases w.nw with q | q | q | q | q | q | q
        · exact .inl q
        · exact .inr (.inl q)
        · exact .inr (.inr q)
        · exact absurd (.inl q) c1
        · exact absurd (.inr q) c1
        · exact absurd q nr
        · exact absurd q nw
      by_cases c3 : s.part = "chunk end"
      · rw [if_pos c3]
        have hbody : s.now = "body" := by
          rcases hn with q | q | q
          · have := w.sp q
            rw [c3] at this
            exact absurd this (by decide +kernel)
          · have := w.hp q
            rw [c3] at this
            exact absurd this (by decide +kernel)
          · exact q
        unfold readChunkEnd
        by_cases c4 : o ≠ (if s.ending then 10 else 13)
        · rw [if_pos c4]
          exact h.wrong
        · rw [if_neg c4]
          by_cases c5 : s.ending = true
          · rw [if_pos c5]
            exact wf_body ⟨h.kk, h.bk, h.fs, h.fb, h.ln, h.lo⟩ hbody (fun k => w.as k (.inr hbody)) (.inr (.inr (.inr (.inl rfl)))) (fun z => absurd z size_no)
          · rw [if_neg c5]
            exact w.with s.count true
      · rw [if_neg c3]
        by_cases c4 : s.ending = true ∨ o = 13 ∨ o = 10
        · rw [if_pos c4]
          unfold readLineEnd
          by_cases c5 : s.ending ≠ decide (o = 10)
          · rw [if_pos c5]
            exact h.wrong
          · rw [if_neg c5]
            by_cases c6 : s.ending = false
            · rw [if_pos c6]
              exact w.with s.count true
            · rw [if_neg c6]
              have l2 := h.bk.l2
              have ln := h.ln
              have w2 : WfR kd b { s with ending := false, line := [] } := ⟨w.kk, w.bk, w.fs, w.fb, by show (0 : Int) ≤ b.line; have := h.bk.l1; omega, (fun x hx => by cases hx), w.nw, w.as, w.st, w.bp, w.lf, w.hp, w.sp⟩
              have wl := wf_line w2 (fun q k z => c2 ⟨q, k, z⟩) hn (fun q => by
                rcases w.bp q with z | z | z | z | z | z
                · exact absurd ⟨q, .inl z⟩ nb
                · exact absurd ⟨q, .inr (.inl z)⟩ nb
                · exact absurd ⟨q, .inr (.inr z)⟩ nb
                · exact .inl z
                · exact absurd z c3
                · exact .inr z) (z := lineS s.line) (by rw [lineS_len]; omega)
              cases q : readLine kd b { s with ending := false, line := [] } (lineS s.line) with
              | ok r =>
                rw [q] at wl
                exact wl
              | error e =>
                obtain ⟨s1, k⟩ := e
                rw [q] at wl
                exact WfB.wrong wl
        · rw [if_neg c4]
          by_cases c5 : octB o = false
          · rw [if_pos c5]
            exact h.wrong
          · rw [if_neg c5]
            by_cases c6 : (s.line.length : Int) = b.line
            · rw [if_pos c6]
              exact h.wrong
            · rw [if_neg c6]
              have ln := h.ln
              have el : (s.line ++ [o]).length = s.line.length + 1 := by simp
              have hlo : ∀ x ∈ s.line ++ [o], octB x = true := fun x hx => by
                rcases List.mem_append.mp hx with hx | hx
                · exact w.lo x hx
                · rw [List.mem_singleton.mp hx]
                  simpa using c5
              have hlen : (((s.line ++ [o]).length : Nat) : Int) ≤ b.line := by omega
              exact ⟨w.kk, w.bk, w.fs, w.fb, hlen, hlo, w.nw, w.as, w.st, w.bp, w.lf, w.hp, w.sp⟩
theorem wf_run (w : WfR kd b s) (nb : s.now = "body" ∧ (s.part = "length" ∨ s.part = "chunk" ∨ s.part = "rest")) (o : Int) : WfR kd b (readRun kd s o).1 := by
  have h := w.wb
  obtain ⟨hbody, hp⟩ := nb
  unfold readRun
  by_cases c1 : s.part = "rest"
  · rw [if_pos c1]
    exact w
  · rw [if_neg c1]
    have hl := w.lf hbody (by
      rcases hp with z | z | z
      · exact .inl z
      · exact .inr z
      · exact absurd z c1)
    by_cases c2 : s.left - 1 = 0
    · rw [if_pos c2]
      by_cases c3 : s.part = "chunk"
      · rw [if_pos c3]
        exact wf_body ⟨h.kk, h.bk, h.fs, h.fb, h.ln, h.lo⟩ hbody (fun k => w.as k (.inr hbody)) (.inr (.inr (.inr (.inr (.inl rfl))))) (fun z => absurd z cend_no)
      · rw [if_neg c3]
        exact wf_end (s := { s with left := s.left - 1 }) ⟨h.kk, h.bk, h.fs, h.fb, h.ln, h.lo⟩ []
    · rw [if_neg c2]
      exact wf_body ⟨h.kk, h.bk, h.fs, h.fb, h.ln, h.lo⟩ hbody (fun k => w.as k (.inr hbody)) (w.bp hbody) (fun _ => by show 1 ≤ s.left - 1; omega)
theorem wf_step (w : WfR kd b s) (o : Int) : WfR kd b (stepM kd b s o).1 := by
  unfold stepM
  by_cases c1 : s.now = "wrong"
  · rw [if_pos c1]
    exact w.with _ s.ending
  · rw [if_neg c1]
    have ws : WfR kd b (readSome kd b s o).1 := by
      unfold readSome
      by_cases c2 : s.now = "raw"
      · rw [if_pos c2]
        exact w
      · rw [if_neg c2]
        by_cases c3 : s.now = "body" ∧ (s.part = "length" ∨ s.part = "chunk" ∨ s.part = "rest")
        · rw [if_pos c3]
          exact wf_run w c3 o
        · rw [if_neg c3]
          exact wf_octet w c2 c1 c3 o
    exact ws.with _ _
end
end K32

namespace K32
open PySem PySem.Spec PyProof.Rows L2
/-! ### the plain law: what one octet gives -/
def NoRun (e : Evt) : Prop := EvOk e ∧ ∀ w os, e ≠ .run w os
def Sm (n : Nat) (l : List Evt) : Prop := l.length ≤ n ∧ ∀ e ∈ l, NoRun e
theorem Sm.nil (n : Nat) : Sm n [] := ⟨Nat.zero_le _, fun e he => by cases he⟩
theorem Sm.le {n m : Nat} {l : List Evt} (h : Sm n l) (k : n ≤ m) : Sm m l := ⟨Nat.le_trans h.1 k, h.2⟩
theorem Sm.one {e : Evt} (h : NoRun e) : Sm 1 [e] := ⟨Nat.le_refl _, fun x hx => by rw [List.mem_singleton.mp hx]; exact h⟩
theorem Sm.cons {n : Nat} {e : Evt} {l : List Evt} (h : NoRun e) (g : Sm n l) : Sm (n + 1) (e :: l) := ⟨by rw [List.length_cons]; have := g.1; omega, fun x hx => by
  rcases List.mem_cons.mp hx with hx | hx
  · rw [hx]
    exact h
  · exact g.2 x hx⟩
theorem nr_err (k : Str) (n : Int) : NoRun (.err k n) := ⟨trivial, fun _ _ z => by cases z⟩
theorem nr_fin (fs : List Fld) : NoRun (.fin fs) := ⟨trivial, fun _ _ z => by cases z⟩
section
variable {kd : Str} {b : Bk} {s : RS}
theorem sm_fail (k : Str) (s : RS) : Sm 1 (failM k s).2 := Sm.one (nr_err _ _)
theorem sm_end (kd : Str) (s : RS) (fs : List Fld) : Sm 1 (endMsg kd s fs).2 := by
  have e : (endMsg kd s fs).2 = [.fin fs] := by
    unfold endMsg
    split <;> rfl
  rw [e]
  exact Sm.one (nr_fin _)
theorem sm_begin (kd : Str) (s : RS) (fr : Fr) : Sm 1 (beginBody kd s fr).2 := by
  cases fr with
  | info => exact Sm.nil _
  | chunked => exact Sm.nil _
  | close => exact Sm.nil _
  | switch => exact sm_end kd { s with now := "body", part := "" } []
  | len n =>
    unfold beginBody
    by_cases q : n = 0
    · simp only [q, if_true]
      exact sm_end _ _ _
    · simp only [q, if_false]
      exact Sm.nil _
theorem sm_line (kd : Str) (b : Bk) (s : RS) (z : Str) : match readLine kd b s z with
    | .ok r => Sm 2 r.2
    | .error _ => True := by
  unfold readLine
  by_cases c1 : s.part = "size"
  · rw [if_pos c1]
    cases mSize z with
    | error k => trivial
    | ok n => exact Sm.nil _
  · rw [if_neg c1]
    by_cases c2 : s.now = "start"
    · rw [if_pos c2]
      by_cases c3 : z = "" ∧ kd = REQS
      · rw [if_pos c3]
        exact Sm.nil _
      · rw [if_neg c3]
        cases mStart kd z with
        | error k => trivial
        | ok st => exact Sm.nil _
    · rw [if_neg c2]
      by_cases c3 : z ≠ ""
      · rw [if_pos c3]
        cases mField z with
        | none => trivial
        | some f =>
          by_cases c4 : (s.fields.length : Int) = b.fields
          · show match (if (s.fields.length : Int) = b.fields then (.ok (failM "many" s) : OutX) else .ok ({ s with fields := s.fields ++ [f] }, [])) with | .ok r => Sm 2 r.2 | .error _ => True
            rw [if_pos c4]
            exact (sm_fail _ _).le (by decide)
          · show match (if (s.fields.length : Int) = b.fields then (.ok (failM "many" s) : OutX) else .ok ({ s with fields := s.fields ++ [f] }, [])) with | .ok r => Sm 2 r.2 | .error _ => True
            rw [if_neg c4]
            exact Sm.nil _
      · rw [if_neg c3]
        by_cases c4 : s.part = "trailers"
        · rw [if_pos c4]
          exact (sm_end _ _ _).le (by decide)
        · rw [if_neg c4]
          cases q : headFr kd b s.start s.fields (s.asks.headD ⟨"", false, false⟩) with
          | error k =>
            have e : endHead kd b s s.fields = .error ({ s with last := !persB s.start.ver s.fields b }, k) := by
              unfold endHead
              rw [q]
            rw [e]
            trivial
          | ok fr =>
            rw [endHead_ok q]
            exact Sm.cons ⟨headW_ok kd fr, fun _ _ z => by cases z⟩ (sm_begin _ _ _)
theorem sm_octet (kd : Str) (b : Bk) (s : RS) (o : Int) : Sm 2 (readOctet kd b s o).2 := by
  have f : ∀ (k : Str) (s : RS), Sm 2 (failM k s).2 := fun k s => (sm_fail k s).le (by decide)
  unfold readOctet
  split
  · exact f _ _
  split
  · exact f _ _
  split
  · unfold readChunkEnd
    by_cases c : o ≠ (if s.ending then 10 else 13)
    · rw [if_pos c]
      exact f _ _
    · rw [if_neg c]
      by_cases c5 : s.ending = true
      · rw [if_pos c5]
        exact Sm.nil _
      · rw [if_neg c5]
        exact Sm.nil _
  split
  · unfold readLineEnd
    split
    · exact f _ _
    split
    · exact Sm.nil _
    · have wl := sm_line kd b { s with ending := false, line := [] } (lineS s.line)
      cases q : readLine kd b { s with ending := false, line := [] } (lineS s.line) with
      | ok r =>
        rw [q] at wl
        exact wl
      | error e =>
        obtain ⟨s1, k⟩ := e
        exact f _ _
  split
  · exact f _ _
  split
  · exact f _ _
  · exact Sm.nil _
/-- the events of one octet -/
structure StepEv (o : Int) (l : List Evt) : Prop where
  len : l.length ≤ 2
  ok : ∀ e ∈ l, EvOk e
  one : ∀ w os, Evt.run w os ∈ l → os = [o]
theorem Sm.step {o : Int} {l : List Evt} (h : Sm 2 l) : StepEv o l := ⟨h.1, fun e he => (h.2 e he).1, fun w os he => absurd rfl ((h.2 _ he).2 w os)⟩
theorem step_ev (kd : Str) (b : Bk) (s : RS) (o : Int) : StepEv o (stepM kd b s o).2 := by
  have run1 : ∀ w : Str, (w = "data" ∨ w = "raw") → StepEv o [.run w [o]] := fun w hw => by
    refine ⟨by show 1 ≤ 2; decide, fun e he => ?_, fun w' os he => ?_⟩
    · rw [List.mem_singleton.mp he]
      exact ⟨hw, fun z => by cases z⟩
    · have := List.mem_singleton.mp he
      injection this
  unfold stepM
  by_cases c1 : s.now = "wrong"
  · rw [if_pos c1]
    exact (Sm.nil 2).step
  · rw [if_neg c1]
    show StepEv o (readSome kd b s o).2
    unfold readSome
    by_cases c2 : s.now = "raw"
    · rw [if_pos c2]
      exact run1 "raw" (.inr rfl)
    · rw [if_neg c2]
      by_cases c3 : s.now = "body" ∧ (s.part = "length" ∨ s.part = "chunk" ∨ s.part = "rest")
      · rw [if_pos c3]
        unfold readRun
        by_cases d1 : s.part = "rest"
        · rw [if_pos d1]
          exact run1 "data" (.inl rfl)
        · rw [if_neg d1]
          by_cases d2 : s.left - 1 = 0
          · rw [if_pos d2]
            by_cases d3 : s.part = "chunk"
            · rw [if_pos d3]
              exact run1 "data" (.inl rfl)
            · rw [if_neg d3]
              have r := run1 "data" (.inl rfl)
              have e := sm_end kd { s with left := s.left - 1 } []
              refine ⟨?_, fun x hx => ?_, fun w' os hx => ?_⟩
              · show ((endMsg kd { s with left := s.left - 1 } []).2).length + 1 ≤ 2
                have := e.1
                omega
              · rcases List.mem_cons.mp hx with hx | hx
                · exact r.ok x (by rw [hx]; exact List.mem_singleton.mpr rfl)
                · exact (e.2 x hx).1
              · rcases List.mem_cons.mp hx with hx | hx
                · exact r.one w' os (List.mem_singleton.mpr hx)
                · exact absurd rfl ((e.2 _ hx).2 w' os)
          · rw [if_neg d2]
            exact run1 "data" (.inl rfl)
      · rw [if_neg c3]
        exact (sm_octet kd b s o).step
theorem StepEv.sum {o : Int} {l : List Evt} (h : StepEv o l) : sumO l ≤ 2 := by
  have : ∀ l : List Evt, (∀ w os, Evt.run w os ∈ l → os = [o]) → sumO l ≤ l.length := by
    intro l
    induction l with
    | nil => exact fun _ => Nat.le_refl _
    | cons e r ih =>
      intro hl
      have hr := ih fun w os he => hl w os (List.mem_cons_of_mem _ he)
      cases e with
      | run w os =>
        have := hl w os List.mem_cons_self
        subst this
        show [o].length + sumO r ≤ r.length + 1
        show 1 + sumO r ≤ r.length + 1
        omega
      | head w st fs =>
        show sumO r ≤ r.length + 1
        omega
      | fin fs =>
        show sumO r ≤ r.length + 1
        omega
      | err k n =>
        show sumO r ≤ r.length + 1
        omega
  exact Nat.le_trans (this l h.one) h.len
theorem sumO_join : ∀ es : List Evt, sumO (joinE es) = sumO es := by
  intro es
  unfold joinE
  have : ∀ (es acc : List Evt), sumO (es.foldl joinS acc) = sumO acc + sumO es := by
    intro es
    induction es with
    | nil => exact fun acc => rfl
    | cons e r ih =>
      intro acc
      rw [List.foldl_cons, ih, joinS_sum, sumO_app]
      have : sumO (e :: r) = sumO [e] + sumO r := sumO_app [e] r
      rw [this, Nat.add_assoc]
  rw [this]
  show 0 + sumO es = sumO es
  omega
/-- a run's events -/
theorem runM_ev (kd : Str) (b : Bk) : ∀ (x : List Int) (s : RS), (runM kd b s x).2.length ≤ 2 * x.length ∧ EvsOk (runM kd b s x).2 ∧ sumO (runM kd b s x).2 ≤ 2 * x.length
  | [], s => ⟨Nat.le_refl _, (fun e he => by cases he), Nat.le_refl _⟩
  | o :: r, s => by
    obtain ⟨h1, h2, h3⟩ := runM_ev kd b r (stepM kd b s o).1
    have st := step_ev kd b s o
    have hs := st.sum
    have hl := st.len
    refine ⟨?_, ?_, ?_⟩
    · show ((stepM kd b s o).2 ++ (runM kd b (stepM kd b s o).1 r).2).length ≤ 2 * (r.length + 1)
      rw [List.length_append]
      omega
    · exact EvsOk.app st.ok h2
    · show sumO ((stepM kd b s o).2 ++ (runM kd b (stepM kd b s o).1 r).2) ≤ 2 * (r.length + 1)
      rw [sumO_app]
      omega
theorem runM_wf (w : ∀ s, WfR kd b s → ∀ o, WfR kd b (stepM kd b s o).1) : ∀ (x : List Int) (s : RS), WfR kd b s → WfR kd b (runM kd b s x).1
  | [], s, h => h
  | o :: r, s, h => runM_wf w r _ (w s h o)
theorem runM_snoc (kd : Str) (b : Bk) (x : List Int) (o : Int) (s : RS) : runM kd b s (x ++ [o]) = ((stepM kd b (runM kd b s x).1 o).1, (runM kd b s x).2 ++ (stepM kd b (runM kd b s x).1 o).2) := by
  rw [runM_app]
  show ((stepM kd b (runM kd b s x).1 o).1, (runM kd b s x).2 ++ ((stepM kd b (runM kd b s x).1 o).2 ++ [])) = _
  rw [List.append_nil]
end
end K32

namespace K32
open PySem PySem.Spec PyProof.Rows L2
/-! ### the same data on both sides; a property -/
section
variable {X : Cx} {C : Addr} {k : Nat} {ps : List Str} {sp : Sp} {f : Str} {e : Expr} {pos : PySem.Pos} {ta : TE}
def rSame (K : PySem.W.Frag) : R2 := fun x y H Q => ∃ d, Dp K H x d ∧ Dp K H y d ∧ d.plain = true ∧ d.depth ≤ 60 ∧ Q (.bl false) H
theorem op_neSame (hu : X.A.units + 64 < cLine) : OpR X (compareOp .NotEq) (rSame X.K) := by
  intro pins s σ H x y v u Q I rx ry h
  obtain ⟨d, hd, he, pl, dp, q⟩ := h
  obtain ⟨as, r1⟩ := Dp.reads I d x v hd rx
  obtain ⟨bs, r2⟩ := Dp.reads I d y u he ry
  refine SeqAt.ne_plain r1 r2 pl pl (by have : min d.depth d.depth = d.depth := Nat.min_self _; omega) ?_
  rw [SeqAt.eqv_refl_plain d pl]
  exact ⟨.bl _, H, I, rfl, q⟩
theorem pe_pr (he : PE X e ta) (c : Cls X.K C) (h : HasP X.prog X.w X.K X.mg X.base C f k ps sp) (hr : Room (k + 1) X.A) (hab : attributeBase e f X.env (eval e X.env) = eval e X.env := by rfl) : PE X (.Attribute e f pos) (tProp C sp [] EF ta) := by
  obtain ⟨p, g, fd, hp, hb, F⟩ := h.ex
  exact pe_prop he c hp F hr hb .nil (fun _ _ _ _ _ _ _ z => z.elim) hab
end
/-! ### events as data -/
def fldD (f : Fld) : PyData := .tuple [.str f.1, .str f.2]
def sttD : Stt → List PyData
  | .no => []
  | .req a b v => [.str a, .str b, .int v]
  | .sta s r v => [.int s, .str r, .int v]
def evD : Evt → PyData
  | .head w st fs => .tuple (.str w :: (sttD st ++ [.tuple (fs.map fldD)]))
  | .run w os => .tuple [.str w, .tuple (os.map .int)]
  | .fin fs => .tuple [.str "end", .tuple (fs.map fldD)]
  | .err k n => .tuple [.str "error", .str k, .int n]
section
variable {K : PySem.W.Frag} {H : Hp}
theorem dp_app {xs ys : List V} {ds es : List PyData} : DpAll K H xs ds → DpAll K H ys es → DpAll K H (xs ++ ys) (ds ++ es) := by
  induction xs generalizing ds with
  | nil =>
    intro a c
    cases a
    exact c
  | cons x r ih =>
    intro a c
    cases a with
    | cons a1 a2 => exact .cons a1 (ih a2 c)
theorem dp_ints : ∀ os : List Int, DpAll K H (os.map V.int) (os.map PyData.int)
  | [] => .nil
  | o :: r => .cons (.int o) (dp_ints r)
theorem dp_fld {v : V} {f : Fld} (h : FldAt H v f) : Dp K H v (fldD f) := by
  obtain ⟨t, rfl, ht⟩ := h
  exact .tup (SqT.of ht) (.cons (.str _) (.cons (.str _) .nil))
theorem dp_flds {vs : List V} {fs : List Fld} (h : Paired (FldAt H) vs fs) : DpAll K H vs (fs.map fldD) := by
  induction h with
  | nil => exact .nil
  | cons r _ ih => exact .cons (dp_fld r) ih
theorem dp_ft {a : Addr} {fs : List Fld} (h : FT H a fs) : Dp K H (.ref a) (.tuple (fs.map fldD)) := by
  obtain ⟨vs, h1, h2⟩ := h
  exact .tup (SqT.of h1) (dp_flds h2)
theorem dp_stt (st : Stt) : DpAll K H st.vs (sttD st) := by
  cases st with
  | no => exact .nil
  | req a b v => exact .cons (.str _) (.cons (.str _) (.cons (.int _) .nil))
  | sta s r v => exact .cons (.int _) (.cons (.str _) (.cons (.int _) .nil))
theorem dp_ev {x : V} {e : Evt} (h : EvAt H x e) : Dp K H x (evD e) := by
  obtain ⟨t, vs, rfl, ht, tl⟩ := h
  cases e with
  | head w st fs =>
    obtain ⟨f, rfl, hf⟩ := tl
    exact .tup (SqT.of ht) (.cons (.str _) (dp_app (dp_stt st) (.cons (dp_ft hf) .nil)))
  | run w os =>
    obtain ⟨o, rfl, ho⟩ := tl
    exact .tup (SqT.of ht) (.cons (.str _) (.cons (.tup (SqT.of ho) (dp_ints os)) .nil))
  | fin fs =>
    obtain ⟨f, rfl, hf⟩ := tl
    exact .tup (SqT.of ht) (.cons (.str _) (.cons (dp_ft hf) .nil))
  | err k n =>
    have e : vs = [.str k, .int n] := tl
    subst e
    exact .tup (SqT.of ht) (.cons (.str _) (.cons (.str _) (.cons (.int _) .nil)))
theorem dp_evs {vs : List V} {es : List Evt} (h : Paired (EvAt H) vs es) : DpAll K H vs (es.map evD) := by
  induction h with
  | nil => exact .nil
  | cons r _ ih => exact .cons (dp_ev r) ih
theorem dp_el {p : Addr} {es : List Evt} (h : EL H p es) : Dp K H (.ref p) (.list (es.map evD)) := by
  obtain ⟨vs, h1, h2⟩ := h
  exact .lst (SqL.of h1) (dp_evs h2)
end
def Low (n : Nat) (d : PyData) : Prop := d.plain = true ∧ d.depth ≤ n
theorem low_all {n : Nat} : ∀ ds : List PyData, (∀ d ∈ ds, Low n d) → PyData.plainAll ds = true ∧ PyData.depthAll ds ≤ n
  | [], _ => ⟨rfl, Nat.zero_le _⟩
  | d :: r, h => by
    obtain ⟨h1, h2⟩ := h d List.mem_cons_self
    obtain ⟨h3, h4⟩ := low_all r fun x hx => h x (List.mem_cons_of_mem _ hx)
    refine ⟨?_, ?_⟩
    · rw [PyData.plainAll, h1, h3]
      rfl
    · rw [PyData.depthAll]
      exact Nat.max_le.mpr ⟨h2, h4⟩
theorem low_tup {n : Nat} {ds : List PyData} (h : ∀ d ∈ ds, Low n d) : Low (n + 1) (.tuple ds) := by
  obtain ⟨h1, h2⟩ := low_all ds h
  refine ⟨?_, ?_⟩
  · rw [PyData.plain]
    exact h1
  · rw [PyData.depth]
    omega
theorem low_lst {n : Nat} {ds : List PyData} (h : ∀ d ∈ ds, Low n d) : Low (n + 1) (.list ds) := by
  obtain ⟨h1, h2⟩ := low_all ds h
  refine ⟨?_, ?_⟩
  · rw [PyData.plain]
    exact h1
  · rw [PyData.depth]
    omega
theorem low_str (n : Nat) (z : Str) : Low n (.str z) := ⟨rfl, by rw [PyData.depth]; exact Nat.zero_le _⟩
theorem low_int (n : Nat) (z : Int) : Low n (.int z) := ⟨rfl, by rw [PyData.depth]; exact Nat.zero_le _⟩
theorem low_flds (fs : List Fld) : Low 5 (.tuple (fs.map fldD)) := low_tup fun d hd => by
  obtain ⟨f, _, rfl⟩ := List.mem_map.mp hd
  refine low_tup (n := 3) fun d hd => ?_
  simp only [List.mem_cons, List.not_mem_nil, or_false] at hd
  rcases hd with rfl | rfl <;> exact low_str _ _
theorem low_ints (os : List Int) : Low 5 (.tuple (os.map PyData.int)) := low_tup fun d hd => by
  obtain ⟨f, _, rfl⟩ := List.mem_map.mp hd
  exact low_int _ _
theorem low_ev (e : Evt) : Low 6 (evD e) := by
  cases e with
  | head w st fs =>
    refine low_tup fun d hd => ?_
    rcases List.mem_cons.mp hd with rfl | hd
    · exact low_str _ _
    rcases List.mem_append.mp hd with hd | hd
    · cases st with
      | no => cases hd
      | req a b v =>
        simp only [sttD, List.mem_cons, List.not_mem_nil, or_false] at hd
        rcases hd with rfl | rfl | rfl
        · exact low_str _ _
        · exact low_str _ _
        · exact low_int _ _
      | sta a b v =>
        simp only [sttD, List.mem_cons, List.not_mem_nil, or_false] at hd
        rcases hd with rfl | rfl | rfl
        · exact low_int _ _
        · exact low_str _ _
        · exact low_int _ _
    · rw [List.mem_singleton.mp hd]
      exact low_flds fs
  | run w os =>
    refine low_tup fun d hd => ?_
    simp only [List.mem_cons, List.not_mem_nil, or_false] at hd
    rcases hd with rfl | rfl
    · exact low_str _ _
    · exact low_ints os
  | fin fs =>
    refine low_tup fun d hd => ?_
    simp only [List.mem_cons, List.not_mem_nil, or_false] at hd
    rcases hd with rfl | rfl
    · exact low_str _ _
    · exact low_flds fs
  | err k n =>
    refine low_tup fun d hd => ?_
    simp only [List.mem_cons, List.not_mem_nil, or_false] at hd
    rcases hd with rfl | rfl | rfl
    · exact low_str _ _
    · exact low_str _ _
    · exact low_int _ _
theorem low_el (es : List Evt) : Low 7 (.list (es.map evD)) := low_lst fun d hd => by
  obtain ⟨e, _, rfl⟩ := List.mem_map.mp hd
  exact low_ev e
end K32

namespace K32
open PySem PySem.Spec PyProof.Rows L2
theorem BookAt.bg {A : Adr} {H H1 : Hp} {p q : Addr} {n m : Nat} {b : Bk} (h : BookAt A H q b) (a : Bg p n H H1) (hb : BgAt H p m) : BookAt A H1 q b := by
  obtain ⟨dx, hq⟩ := h
  obtain ⟨xs, hp⟩ := hb.some
  exact ⟨dx, a.at hq fun z => by rw [z, hp] at hq; cases hq⟩
theorem AL.mono {H H1 : Hp} {q : Addr} {as : List Ask} (h : AL H q as) (k : ∀ xs, H q = some (.lst xs) → H1 q = some (.lst xs)) (t : Tk H H1) : AL H1 q as := by
  obtain ⟨xs, h1, h2⟩ := h
  exact ⟨xs, k _ h1, L2.Paired.mapP h2 fun _ _ q => q.mono t⟩
theorem AL.ex {H H1 : Hp} {q : Addr} {as : List Ask} (h : AL H q as) (e : Ex H H1) : AL H1 q as := h.mono (fun _ z => e _ _ z) (Tk.of e)
theorem EL.mono {H H1 : Hp} {q : Addr} {es : List Evt} (h : EL H q es) (k : ∀ xs, H q = some (.lst xs) → H1 q = some (.lst xs)) (t : Tk H H1) : EL H1 q es := by
  obtain ⟨xs, h1, h2⟩ := h
  exact ⟨xs, k _ h1, evs_mono t h2⟩
theorem EL.ex {H H1 : Hp} {q : Addr} {es : List Evt} (h : EL H q es) (e : Ex H H1) : EL H1 q es := h.mono (fun _ z => e _ _ z) (Tk.of e)
theorem pr_app {α β : Type} {R : α → β → Prop} : ∀ {xs : List α} {ys : List β} {us : List α} {vs : List β}, Paired R xs ys → Paired R us vs → Paired R (xs ++ us) (ys ++ vs)
  | _, _, _, _, .nil, r => r
  | _, _, _, _, .cons a t, r => .cons a (pr_app t r)
theorem EL.cat {H : Hp} {q r : Addr} {es fs : List Evt} (h : EL H q es) (g : EL H r fs) : ∃ xs ys, H q = some (.lst xs) ∧ H r = some (.lst ys) ∧ xs.length = es.length ∧ ys.length = fs.length ∧ ∀ u, H u = none → EL (upd H u (.lst (xs ++ ys))) u (es ++ fs) := by
  obtain ⟨xs, h1, h2⟩ := h
  obtain ⟨ys, g1, g2⟩ := g
  refine ⟨xs, ys, h1, g1, h2.length, g2.length, fun u hu => ⟨xs ++ ys, upd_same, ?_⟩⟩
  have e := Tk.of (Ex.new (o := .lst (xs ++ ys)) hu)
  exact pr_app (evs_mono e h2) (evs_mono e g2)
theorem turns4 (l : Int) (h : 0 ≤ l) : 2 ≤ (if (if l < 4 then l else 4) > 2 then (if l < 4 then l else 4) else 2) ∧ (if (if l < 4 then l else 4) > 2 then (if l < 4 then l else 4) else 2) ≤ 4 := by
  by_cases c : l < 4
  · rw [if_pos c]
    split <;> omega
  · rw [if_neg c]
    decide
theorem i62 : -(2 ^ 62) ≤ (2 : Int) ∧ (4 : Int) < 2 ^ 62 := by decide
section
variable {P : Program} {w : World} {K : PySem.W.Frag} {mg : Str → Option Value} {base : Heap} {A : Adr}
/-! ### the law -/
def sp_law (K : PySem.W.Frag) : Sp := fun vs H Q _ => ∃ (s : Addr) (ns : List Int), vs = [.ref s] ∧ SqL K H s (ns.map V.int) ∧ ns.length ≤ 63 ∧ ∀ H', Q (.bl true) H'
abbrev N_law : List Str := ["_law_script", "_law_k", "_law_bag_here", "_law_kind", "_law_rules", "_law_asks_here", "_law_data_here", "_law_reader_here", "_law_found", "_law_at", "_law_told", "_law_due", "_law_event"]
theorem sc_law : FnScope N_law ["_law_script"] (defScope s_law) := ⟨rfl, rfl, rfl, by decide +kernel, rfl, by decide +kernel, by decide +kernel⟩
theorem fn0 {x : Str} {st : Stmt} {N ps : List Str} {k : Nat} {sp : Sp} {f : Addr} {fd : FuncData} (F : FunD K x x (defArgs st) (defBody st) (defScope st) [] [] f fd) (S : FnScope N ps (defScope st)) (len : ∀ vs H Q E, sp vs H Q E → vs.length = ps.length)
    (hbody : ∀ (cdv : Value) (A : Around) (outer : List Env) (s : Shared) (H : Hp) (vs : List V) (Q : VK) (E : XK), Room k (A.deeper (envOfC x (defScope st) s.heap.objs.size f cdv)) → sp vs H Q E →
      ∃ t, PSs (cxOf CX0 P w K mg base N x (defScope st) f cdv A outer s H E).nox (defBody st) t ∧ t { nx := fun _ H' => Q .non H', rt := Q } (L2.start N vs) H) : FnOk P w K mg base CX0 (k + 1) f fd ps sp :=
  F.ok S len fun cdv A outer s H vs Q E hr h => by
    obtain ⟨t, a, b⟩ := hbody cdv A outer s H vs Q E hr h
    exact ⟨t, a.nox, b⟩
theorem ok_law (T : Txt K w mg A) {f : Addr} {fd : FuncData} (F : FunD K "law" "law" (defArgs s_law) (defBody s_law) (defScope s_law) [] [] f fd) : FnOk P w K mg base CX0 13 f fd ["_law_script"] (sp_law K) := by
  refine fn0 (k := 12) F sc_law (fun vs H Q E h => ?_) (fun cdv A0 outer ss H vs Q XE hr h => ?_)
  · obtain ⟨s, ns, rfl, _⟩ := h
    rfl
  · obtain ⟨s, ns, rfl, hs, hn, k⟩ := h
    refine ⟨_, ((pss_cons (ps_for PassesOwn.never rfl (pi_range1 (by rfl) T.b_range (pa_cons (pe_callB (call_max2 rfl) (by rfl) T.b_max (by decide +kernel) (pa_cons pe_int (pa_cons (pe_callB (call_min2 rfl) (by rfl) T.b_min (by decide +kernel) (pa_cons pe_int (pa_cons (pe_callB call_len_seq (by rfl) T.b_len PySem.boot_len (pa_cons (pv 0) pa_nil)) pa_nil))) pa_nil))) pa_nil)) (pg_name (i := 1) sc_law.nd rfl (.inl rfl))
      (pss_cons (ps_set (i := 2) sc_law.nd rfl (.inl rfl) (pe_fn (h__law_bag T) (hr.mono (by decide)) paN (pa_cons (pv 0) (pa_cons (pv 1) pa_nil))))
      (pss_cons (ps_set (i := 3) sc_law.nd rfl (.inl rfl) (pe_ix ix_list (pe_lst (pa_cons pe_str (pa_cons pe_str pa_nil))) (pe_fn (h__law_take T) (hr.mono (by decide)) paN (pa_cons (pv 2) (pa_cons pe_int pa_nil))) (fun _ _ => rfl)))
      (pss_cons (ps_par (i := 4) (j := 5) (by rfl) sc_law.nd rfl rfl (by decide) rfl rfl (pa_cons (pe_fn (h__law_book T) (hr.mono (by decide)) paN (pa_cons (pv 2) pa_nil)) (pa_cons (pe_fn (h__law_asks T) (hr.mono (by decide)) paN (pa_cons (pv 2) (pa_cons (pv 3) pa_nil))) pa_nil)) (by rfl))
      (pss_cons (ps_set (i := 6) sc_law.nd rfl (.inr rfl) (pe_slice sl_list (pe_fn (h__law_stream T) (hr.mono (by decide)) paN (pa_cons (pv 2) (pa_cons (pv 3) (pa_cons pe_int pa_nil)))) po_none (po_some pe_int)))
      (pss_cons (ps_par (i := 7) (j := 8) (by rfl) sc_law.nd rfl rfl (by decide) rfl rfl (pa_cons (pe_fn (h__law_reader T) (hr.mono (by decide)) paN (pa_cons (pv 3) (pa_cons (pv 4) (pa_cons (pv 5) pa_nil)))) (pa_cons (pe_lst pa_nil) pa_nil)) (by rfl))
      (pss_one (ps_for PassesOwn.never rfl (pi_range1 (by rfl) T.b_range (pa_cons (pe_callB call_len_seq (by rfl) T.b_len PySem.boot_len (pa_cons (pv 6) pa_nil)) pa_nil)) (pg_name (i := 9) sc_law.nd rfl (.inr rfl))
      (pss_cons (ps_set (i := 10) sc_law.nd rfl (.inl rfl) (pe_mt (pv 7) T.cl_Reader (h_Reader_feed T) (hr.mono (by decide)) paN (pa_cons (pe_lst (pa_cons (pe_ix ix_list (pv 6) (pv 9) (fun _ _ => rfl)) pa_nil)) pa_nil)))
      (pss_cons (ps_set (i := 8) sc_law.nd rfl (.inl rfl) (pe_op op_cat (pv 8) (pv 10)))
      (pss_cons (ps_set (i := 11) sc_law.nd rfl (.inl rfl) (pe_fn (h__law_read T) (hr.mono (by decide)) paN (pa_cons (pv 3) (pa_cons (pv 4) (pa_cons (pv 5) (pa_cons (pe_slice sl_list (pv 6) po_none (po_some (pe_op op_add (pv 9) pe_int))) pa_nil))))))
      (pss_cons (ps_if (PW.pt (pw_or (pt_cmpR (op_neSame hr.units) (pe_fn (h_joined T) (hr.mono (by decide)) paN (pa_cons (pv 8) pa_nil)) (pe_fn (h_joined T) (hr.mono (by decide)) paN (pa_cons (pe_ix ix_tup (pv 11) pe_int (fun _ _ => rfl)) pa_nil)) (nomark _)) (pw_or1 (pt_cmpR op_ne (pe_pr (pv 7) T.cl_Reader (h_Reader_state T) (hr.mono (by decide))) (pe_ix ix_tup (pv 11) pe_int (fun _ _ => rfl)) (nomark _))))) (pss_one (ps_ret pe_bl)) pss_nil)
      (pss_one (ps_if (pt_cmpR (op_neNil hr.units) (pe_lc (own := [("_law_event", 12)]) (g := gName 12) rfl sc_law.nd (pi_list (pv 10)) (blkOk_by (N := N_law) (sc := defScope s_law) (by decide +kernel)) (fun _ _ _ _ _ => pg_name (i := 12) sc_law.nd rfl (Or.inl rfl)) (fun _ _ _ _ _ => pts_one (PW.pt (pw_and (pt_cmpR (show OpR _ _ (rIn K false) from op_in_seq) (pe_ix (show IxR _ (rIxT K) from ix_tup) (pv 12) pe_int (fun _ _ => rfl)) (pe_tup (pa_cons pe_str (pa_cons pe_str pa_nil))) (by rfl)) (pw_and1 (pt_cmpR (show OpR _ _ (rSame K) from op_neSame hr.units) (pe_ix (show IxR _ (rIxT K) from ix_tup) (pv 12) pe_int (fun _ _ => rfl)) (pe_tup (pa_cons (pe_ix (show IxR _ (rIxL K) from ix_list) (pv 6) (pv 9) (fun _ _ => rfl)) pa_nil)) (nomark _)))))) (fun _ _ _ _ _ => (pv 12))) (pe_lst pa_nil) (nomark _)) (pss_one (ps_ret pe_bl)) pss_nil))))))))))))))
      (pss_one (ps_ret pe_bl)))), ?_⟩
    refine ⟨_, rfl, s, _, rfl, .inl hs, _, _, rfl, _, _, rfl, ?_⟩
    obtain ⟨tl, th⟩ := turns4 (((ns.map V.int).length : Nat) : Int) (by omega)
    refine ⟨_, rfl, Int.le_trans i62.1 tl, Int.lt_of_le_of_lt th i62.2, for_range (lo := 0) (fun i σ H' => ∃ v1 v2 v3 v4 v5 v6 v7 v8 v9 v10 v11 v12, σ = [some (.ref s), v1, v2, v3, v4, v5, v6, v7, v8, v9, v10, v11, v12] ∧ Ex H H') ⟨_, _, _, _, _, _, _, _, _, _, _, _, rfl, Ex.rfl' _⟩ ?_ ?_⟩
    · rintro i σ H0 hi ⟨v1, v2, v3, v4, v5, v6, v7, v8, v9, v10, v11, v12, rfl, e0⟩
      have hi4 : (i : Int) < 4 := by omega
      refine ⟨_, rfl, _, rfl, s, ns, _, rfl, Evl.ex_l e0 hs, by omega, by omega, fun p H1 hp1 e1 hb1 => ?_⟩
      have e01 := e0.tr e1
      have hp0 : H p = none := e0.free hp1
      have B1 := Bg.here hb1
      refine ⟨by show 2 ≤ sizeLine; decide, fun l hl => ?_⟩
      have n_fl := hb1.ne hl
      have fl : (upd H1 l (.lst [.str "requests", .str "responses"])) l = some (.lst [.str "requests", .str "responses"]) := upd_same
      have B1 := B1.ex (Ex.new (o := .lst [.str "requests", .str "responses"]) hl)
      generalize upd H1 l (.lst [.str "requests", .str "responses"]) = H2 at *
      refine ⟨_, rfl, p, _, 2, rfl, B1.1, by omega, by decide, by decide, fun t2 H2 t20 t21 bg2 => ?_⟩
      have B2 := B1.tr bg2
      have fl := bg2.at fl n_fl
      clear bg2 B1
      obtain ⟨kd, hkd, hkk⟩ : ∃ kd : Str, atI [V.str "requests", V.str "responses"] t2 = some (.str kd) ∧ (kd = REQS ∨ kd = RESPS) := by
        have ht : t2 = 0 ∨ t2 = 1 := by omega
        rcases ht with ht | ht
        · rw [ht]
          exact ⟨_, at0 _ _, .inl rfl⟩
        · rw [ht]
          exact ⟨_, at1 _ _ _, .inr rfl⟩
      refine ⟨l, _, _, _, rfl, rfl, SqL.of fl, hkd, ?_⟩
      clear hkd fl n_fl
      refine ⟨_, rfl, p, _, rfl, B2.1, by omega, fun qb b H3 hbk bin bg3 => ?_⟩
      have B3 := B2.tr bg3
      refine ⟨_, rfl, _, rfl, p, _, kd, rfl, B3.1, by omega, fun qa asks H4 hal n_qa al aok areq bg4 => ?_⟩
      have B4 := B3.tr bg4
      have hbk := hbk.bg bg4 B3.1
      refine ⟨_, _, rfl, ?_⟩
      refine ⟨_, rfl, _, rfl, p, _, kd, rfl, B4.1, by omega, fun q os H5 hq n_hq hos bg5 => ?_⟩
      have B5 := B4.tr bg5
      have hbk := hbk.bg bg5 B4.1
      have hal := hal.mono (fun _ z => bg5.at z n_qa) (bg5.tk B4.1)
      have eH5 : Ex H H5 := fun a o ha => B5.at (e01 _ _ ha) fun z => by rw [z, hp0] at ha; cases ha
      refine ⟨_, rfl, q, _, rfl, SqL.of hq, fun qd hqd => ?_⟩
      rw [show cutV (os.map V.int) none (some 110) = (os.take 110).map V.int from cut_take os 110]
      have e6 := Ex.new (o := .lst ((os.take 110).map V.int)) hqd
      have fd : (upd H5 qd (.lst ((os.take 110).map V.int))) qd = some (.lst ((os.take 110).map V.int)) := upd_same
      have hbk := hbk.mono e6
      have hal := hal.ex e6
      have eH6 := eH5.tr e6
      generalize upd H5 qd (.lst ((os.take 110).map V.int)) = H6 at *
      have dl : (os.take 110).length ≤ 110 := by rw [List.length_take]; omega
      have dr : ∀ o ∈ os.take 110, 0 ≤ o ∧ o ≤ 255 := fun o ho => hos.2 o (List.mem_of_mem_take ho)
      generalize os.take 110 = ds at *
      refine ⟨_, rfl, _, rfl, _, rfl, qb, qa, kd, b, asks, rfl, hkk, hbk, hal, al, aok, areq, fun x R H7 hR e7 own => ?_⟩
      refine ⟨Nat.zero_le _, fun fo hfo => ⟨_, _, rfl, ?_⟩⟩
      have nd : qd ∉ ownP x R := fun z => by
        rw [own _ z] at fd
        cases fd
      have na : qa ∉ ownP x R := fun z => by
        obtain ⟨xs, hxs, _⟩ := hal
        rw [own _ z] at hxs
        cases hxs
      have fd := e7 _ _ fd
      have hbk := hbk.mono e7
      have hal := hal.ex e7
      have eH7 := eH6.tr e7
      obtain ⟨S0, hS0⟩ : ∃ S0 : RS, S0 = { rs0 with asks := asks } := ⟨_, rfl⟩
      rw [← hS0] at hR
      have wf0 : WfR kd b S0 := by
        rw [hS0]
        have := bin.ok.l1
        have := bin.ok.f1
        exact wf_start ⟨hkk, bin.ok, ⟨Nat.zero_le _, fun f hf => by cases hf⟩, by show (0 : Int) ≤ b.fields; omega, by show (0 : Int) ≤ b.line; omega, fun x hx => by cases hx⟩ rfl rfl
      have fr0 : Fresh S0 asks := by
        rw [hS0]
        exact ⟨rfl, rfl, rfl, rfl, rfl, rfl⟩
      have ownH : ∀ a ∈ ownP x R, H a = none := fun a ha => eH6.free (own a ha)
      have e8 := Ex.new (o := .lst []) hfo
      have nfo := hR.out hfo
      have ffo : EL (upd H7 fo (.lst [])) fo [] := ⟨[], upd_same, .nil⟩
      have fd := e8 _ _ fd
      have hbk := hbk.mono e8
      have hal := hal.ex e8
      have hR := hR.mono e8
      have eH8 := eH7.tr e8
      generalize upd H7 fo (.lst []) = H8 at *
      refine ⟨_, rfl, qd, _, rfl, .inl (SqL.of fd), _, rfl, ?_, ?_, for_range (lo := 0) (fun j σ H' => ∃ R fo v9 v10 v11 v12, σ = [some (.ref s), some (.int (0 + (i : Int))), some (.ref p), some (.str kd), some (.ref qb), some (.ref qa), some (.ref qd), some (.ref x), some (.ref fo), v9, v10, v11, v12] ∧
        Ex H H' ∧ BookAt A H' qb b ∧ AL H' qa asks ∧ H' qd = some (.lst (ds.map V.int)) ∧ RdP A H' x kd R b (runM kd b S0 (ds.take j)).1 ∧ EL H' fo (runM kd b S0 (ds.take j)).2 ∧ (∀ a ∈ ownP x R, H a = none) ∧ qd ∉ ownP x R ∧ qa ∉ ownP x R ∧ fo ∉ ownP x R)
        ⟨R, fo, _, _, _, _, rfl, eH8, hbk, hal, fd, hR, ffo, ownH, nd, na, nfo⟩ ?_ ?_⟩
      · rw [List.length_map]
        exact Int.le_trans (by decide : -(2 ^ 62) ≤ (0 : Int)) (by omega)
      · rw [List.length_map]
        exact Int.lt_of_le_of_lt (by omega : (ds.length : Int) ≤ 110) (by decide)
      · clear hR ffo ownH nd na nfo fd hbk hal own eH8 eH7 e8 hfo
        rintro j σ H9 hj ⟨R, fo, v9, v10, v11, v12, rfl, eH9, hbk, hal, fd, hR, ffo, ownH, nd, na, nfo⟩
        have hj' : j < ds.length := by
          rw [List.length_map, Int.toNat_natCast] at hj
          exact hj
        obtain ⟨o, ho⟩ : ∃ o, ds[j]? = some o := ⟨ds[j], List.getElem?_eq_getElem hj'⟩
        have hor := dr o (List.mem_of_getElem? ho)
        have hat : atI (ds.map V.int) (0 + (j : Int)) = some (.int o) := by
          rw [Int.zero_add]
          exact atI_nat (by rw [List.getElem?_map, ho]; rfl)
        have et : ds.take (j + 1) = ds.take j ++ [o] := by
          rw [List.take_succ, ho]
          rfl
        have rs := runM_snoc kd b (ds.take j) o S0
        rw [← et] at rs
        have wf := runM_wf (fun s w o => wf_step w o) (ds.take j) S0 wf0
        have ev0 := runM_ev kd b (ds.take j) S0
        have ev1 := runM_ev kd b (ds.take (j + 1)) S0
        have sev := step_ev kd b (runM kd b S0 (ds.take j)).1 o
        have lj : (ds.take j).length ≤ 110 := by rw [List.length_take]; omega
        have lj1 : (ds.take (j + 1)).length ≤ 110 := by rw [List.length_take]; omega
        generalize hsj : runM kd b S0 (ds.take j) = rj at *
        obtain ⟨sj, Ej⟩ := rj
        obtain ⟨dx, hx⟩ := hR.at_
        refine ⟨_, rfl, x, dx, _, rfl, hx, rfs_no_feed _ _ _, _, rfl, _, rfl, qd, _, _, _, rfl, rfl, SqL.of fd, hat, by show 1 ≤ sizeLine; decide, fun dl hdl => ?_⟩
        have e10 := Ex.new (o := .lst [.int o]) hdl
        have hR10 := hR.mono e10
        have fdl : (upd H9 dl (.lst [.int o])) dl = some (.lst [.int o]) := upd_same
        have ndl := hR.out hdl
        have fd := e10 _ _ fd
        have hbk := hbk.mono e10
        have hal := hal.ex e10
        have ffo := ffo.ex e10
        have eH10 := eH9.tr e10
        generalize upd H9 dl (.lst [.int o]) = H10 at *
        refine ⟨x, kd, R, b, sj, dl, o, rfl, hR10, fdl, hor.1, hor.2, ndl, wf, fun fo2 R2 H11 hR11 hel kp own2 hfo2 nfo2 => ?_⟩
        have mutS : ∀ a ∈ ownP x R, ∀ o, H10 a = some o → Mut o := fun a ha o ho => by
          obtain ⟨u, hu, hm⟩ := hR10.there a ha
          rw [hu] at ho
          cases ho
          exact hm
        have tk := kp.tk mutS
        have out2 : ∀ {a : Addr} {u : HO}, H10 a = some u → a ∉ ownP x R → a ∉ ownP x R2 := fun {a u} ha hn hm => by
          rcases own2 a hm with z | z
          · exact hn z
          · rw [ha] at z
            cases z
        have nd2 := out2 fd nd
        have na2 : qa ∉ ownP x R2 := by
          obtain ⟨xs, hxs, _⟩ := hal
          exact out2 hxs na
        have fd := kp _ _ fd nd
        have hbk := hbk.keep kp mutS
        have hal := hal.mono (fun _ z => kp _ _ z na) tk
        have ffo := ffo.mono (fun _ z => kp _ _ z nfo) tk
        have eH11 : Ex H H11 := fun a u ha => kp a u (eH10 _ _ ha) fun hm => by
          rw [ownH a hm] at ha
          cases ha
        have ownH2 : ∀ a ∈ ownP x R2, H a = none := fun a ha => by
          rcases own2 a ha with z | z
          · exact ownH a z
          · exact eH10.free z
        clear mutS tk kp own2 ownH out2 nd na hR10 fdl
        obtain ⟨xs, ys, hxs, hys, lx, ly, hcat⟩ := EL.cat ffo hel
        rw [rs] at ev1
        generalize hst : stepM kd b sj o = rN at *
        obtain ⟨sN, EN⟩ := rN
        have l0 := ev0.1
        have l1 := sev.len
        refine ⟨_, rfl, _, rfl, fo, fo2, xs, ys, rfl, rfl, hxs, hys, ?_, fun fo3 hfo3 => ?_⟩
        · rw [lx, ly]
          exact small (by show Ej.length + EN.length ≤ 100000; have : Ej.length ≤ 2 * (ds.take j).length := l0; have : EN.length ≤ 2 := l1; omega)
        have e12 := Ex.new (o := .lst (xs ++ ys)) hfo3
        have hel3 := hcat fo3 hfo3
        have nfo3 := hR11.out hfo3
        have fd := e12 _ _ fd
        have hbk := hbk.mono e12
        have hal := hal.ex e12
        have hel := hel.ex e12
        have hR12 := hR11.mono e12
        have eH12 := eH11.tr e12
        clear hcat hxs hys ffo hR11 eH11 eH10 eH9 hx
        generalize upd H11 fo3 (.lst (xs ++ ys)) = H12 at *
        refine ⟨_, rfl, _, rfl, _, rfl, _, rfl, _, rfl, _, _, rfl, rfl, _, rfl, qd, _, rfl, SqL.of fd, fun qs hqs => ?_⟩
        rw [show cutV (ds.map V.int) none (some (0 + (j : Int) + 1)) = (ds.take (j + 1)).map V.int from by
          have e : 0 + (j : Int) + 1 = ((j + 1 : Nat) : Int) := by omega
          rw [e]
          exact cut_take ds (j + 1)]
        have e13 := Ex.new (o := .lst ((ds.take (j + 1)).map V.int)) hqs
        have fqs : (upd H12 qs (.lst ((ds.take (j + 1)).map V.int))) qs = some (.lst ((ds.take (j + 1)).map V.int)) := upd_same
        have fd := e13 _ _ fd
        have hbk := hbk.mono e13
        have hal := hal.ex e13
        have hel := hel.ex e13
        have hel3 := hel3.ex e13
        have hR13 := hR12.mono e13
        have eH13 := eH12.tr e13
        clear hR12 eH12
        generalize upd H12 qs (.lst ((ds.take (j + 1)).map V.int)) = H13 at *
        refine ⟨qb, qa, qs, kd, b, S0, ds.take (j + 1), asks, rfl, hkk, hbk, bin.ok, hal, fqs, by omega, by omega, fr0, fun t le st ins E2 H14 e14 ht hle ok2 len2 run2 => ?_⟩
        obtain ⟨sF, EF, r1, r2, r3⟩ := run2
        have r4 := rs.symm.trans r1
        have r5 : sN = sF := congrArg Prod.fst r4
        have r6 : Ej ++ EN = EF := congrArg Prod.snd r4
        subst r5 r6
        have fd := e14 _ _ fd
        have hbk := hbk.mono e14
        have hal := hal.ex e14
        have hel := hel.ex e14
        have hel3 := hel3.ex e14
        have hR14 := hR13.mono e14
        have eH14 := eH13.tr e14
        clear hR13 eH13
        have len3 : (Ej ++ EN).length ≤ 90000 := Nat.le_trans ev1.1 (by omega)
        have sum3 : sumO (Ej ++ EN) ≤ 90000 := Nat.le_trans ev1.2.2 (by omega)
        have sum2 : sumO E2 ≤ 90000 := by
          rw [← sumO_join, ← r2, sumO_join]
          exact sum3
        refine ⟨_, rfl, fo3, Ej ++ EN, rfl, hel3, ev1.2.1, len3, sum3, fun j1 H15 hj1 e15 el1 => ?_⟩
        refine ⟨_, rfl, t, _, _, _, rfl, rfl, SqT.of (e15 _ _ ht), at0 _ _, le, E2, rfl, hle.ex e15, ok2, Nat.le_trans len2 (by decide), sum2, fun j2 H16 hj2 e16 el2 => ?_⟩
        rw [← r2] at el2
        have e156 := e15.tr e16
        have ht := e156 _ _ ht
        have fd := e156 _ _ fd
        have hbk := hbk.mono e156
        have hal := hal.ex e156
        have hel := hel.ex e156
        have hel3 := hel3.ex e156
        have hR16 := hR14.mono e156
        have eH16 := eH14.tr e156
        have low := low_el (joinE (Ej ++ EN))
        refine ⟨_, dp_el (el1.ex e16), dp_el el2, low.1, Nat.le_trans low.2 (by decide), _, rfl, iteF ?_⟩
        clear el1 el2 e15 e16 e156 hR14 eH14 e14 hle
        obtain ⟨dx16, hx16⟩ := hR16.at_
        refine ⟨_, rfl, x, dx16, _, rfl, hx16, x, kd, R2, sN, dx16, rfl, hx16, _, rfl, t, _, _, _, rfl, rfl, SqT.of ht, at1 _ _ _, rfl, _, rfl, ?_⟩
        rw [dec_vs, decide_eq_true r3]
        refine iteF ?_
        obtain ⟨ws, hws, pws⟩ := id hel
        refine ⟨_, rfl, fo2, rfl, ⟨_, SqL.of hws⟩, fun D hD => ?_⟩
        have hxe : ∀ y ∈ ws, ∃ e ∈ EN, EvAt H16 y e := fun y hy => by
          obtain ⟨n, hn⟩ := List.getElem?_of_mem hy
          obtain ⟨e, he, re⟩ := Paired.at pws hn
          exact ⟨e, List.mem_of_getElem? he, re⟩
        have lws : ws.length ≤ 2 := by
          rw [pws.length]
          exact l1
        refine comp_gen hD (G := fun H => SqL K H fo2 ws) walk_list (fun H' e => SqL.of (e _ _ hws)) (by omega) (fun y => [some (.ref s), some (.int (0 + (i : Int))), some (.ref p), some (.str kd), some (.ref qb), some (.ref qa), some (.ref qd), some (.ref x), some (.ref fo3), some (.int (0 + (j : Int))), some (.ref fo2), some (.ref t), some y]) (fun _ => false) (fun y => y)
          (fun y H' _ _ R r => r) (fun y _ => rfl) (fun y H' hy e R r => ?_) (fun y H' _ hf _ R r => absurd hf Bool.false_ne_true) (fun H' e17 hD17 => ?_)
        · obtain ⟨ev, hev, tv, vs, rfl, htv, tlv⟩ := hxe y hy
          have htv' := e _ _ htv
          refine ⟨_, rfl, tv, _, _, _, rfl, rfl, SqT.of htv', at0 _ _, by show 2 ≤ sizeLine; decide, fun m hm => ?_⟩
          have e18 := Ex.new (o := .tup [.str "data", .str "raw"]) hm
          refine ⟨m, _, rfl, Or.inr (SqT.of upd_same), rfl, rfl, _, rfl, ?_⟩
          have hi : inV (.str ev.nm) [.str "data", .str "raw"] = decide (ev.nm = "data" ∨ ev.nm = "raw") := by
            have := inV_strs ev.nm ["data", "raw"]
            rw [show ([V.str "data", V.str "raw"]) = ([("data" : Str), "raw"] : List Str).map V.str from rfl, this]
            simp
          rw [show (if false = true then !inV (.str ev.nm) [.str "data", .str "raw"] else inV (.str ev.nm) [.str "data", .str "raw"]) = decide (ev.nm = "data" ∨ ev.nm = "raw") from hi]
          refine ite2 (fun c2 => ?_) (fun c2 => ?_)
          · have c2' := of_decide_eq_true c2
            have oke := sev.ok ev hev
            obtain ⟨wv, os', rfl⟩ : ∃ wv os', ev = .run wv os' := by
              cases ev with
              | head w' st' fs' => exact absurd c2' (by rintro (q | q); exact oke.1 q; exact oke.2 q)
              | run wv os => exact ⟨wv, os, rfl⟩
              | fin fs' => exact absurd c2' fin_no
              | err k' n' => exact absurd c2' err_no
            have eo := sev.one wv os' hev
            subst eo
            obtain ⟨ro, rfl, hro⟩ := tlv
            refine ⟨_, rfl, tv, _, _, _, rfl, rfl, SqT.of (e18 _ _ htv'), at1 _ _ _, _, rfl, _, rfl, qd, _, _, _, rfl, rfl, SqL.of (e18 _ _ (e _ _ fd)), hat, by show 1 ≤ sizeLine; decide, fun m2 hm2 => ?_⟩
            have e19 := Ex.new (o := .tup [.int o]) hm2
            refine ⟨.tuple [.int o], .tup (SqT.of (e19 _ _ (e18 _ _ (e _ _ hro)))) (.cons (.int o) .nil), .tup (SqT.of upd_same) (.cons (.int o) .nil), (low_ints [o]).1, Nat.le_trans (low_ints [o]).2 (by decide), _, rfl, ?_⟩
            exact r _ (e18.tr e19)
          · exact r _ e18
        · have hD18 : H' D = some (.lst []) := by
            rw [hD17]
            have : ws.filter (fun _ => false) = [] := List.filter_eq_nil_iff.mpr fun _ _ z => Bool.false_ne_true z
            rw [this]
            rfl
          refine ⟨Nat.zero_le _, fun en hen => ⟨D, en, [], rfl, rfl, SqL.of (Ex.new hen _ _ hD18), upd_same, _, rfl, iteF ?_⟩⟩
          have e18 := e17.tr (Ex.new (o := .lst []) hen)
          refine ⟨R2, fo3, _, _, _, _, rfl, eH16.tr e18, hbk.mono e18, hal.ex e18, e18 _ _ fd, ?_, ?_, ownH2, nd2, na2, nfo3⟩
          · rw [rs]
            exact hR16.mono e18
          · rw [rs]
            exact hel3.ex e18
      · rintro σ H9 ⟨R, fo, v9, v10, v11, v12, rfl, eH9, _⟩
        exact ⟨_, _, _, _, _, _, _, _, _, _, _, _, rfl, eH9⟩
    · rintro σ H0 ⟨v1, v2, v3, v4, v5, v6, v7, v8, v9, v10, v11, v12, rfl, e0⟩
      exact k H0
end
end K32

namespace K32H
open PySem PySem.Spec PyProof.Rows L2 K32
theorem gv_int {K : PySem.W.Frag} {h : Heap} {mg : Str → Option Value} (X : K.In h) (G : h.Ns mainGlobals mg) {x : Str} {i : Int} (c : (He.Fa.int x i).ok K = true) : GV mg x (.int i) := by
  obtain ⟨t, e⟩ := He.int_ok X G c
  exact ⟨_, e, ⟨t, rfl⟩⟩
theorem gv_str {K : PySem.W.Frag} {h : Heap} {mg : Str → Option Value} (X : K.In h) (G : h.Ns mainGlobals mg) {x z : Str} (c : (He.Fa.str x z).ok K = true) : GV mg x (.str z) := by
  obtain ⟨t, e⟩ := He.str_ok X G c
  exact ⟨_, e, ⟨t, rfl⟩⟩
theorem exct {K : PySem.W.Frag} {C fI : Addr} (h : ExcH0 K C fI) (n : NoAttr K C "kind") : K32.ExcT K C fI := ⟨h.oex, h.xf, h.ini, h.ty, n⟩
theorem dicW_none {K : PySem.W.Frag} {P : Params} {a : Addr} {ks : List Str} {z : Str} (h : He.dicW K a = some (He.keysIn P ks)) (hz : z ∉ ks) : PySem.W.nsIn K a z = some none := by
  unfold He.dicW at h
  split at h
  · rename_i c es n sl q
    split at h
    · have hk := Option.some.inj h
      have key : ∀ e ∈ es.toList, ∃ x t, e.key = .str x t ∧ x ∈ ks := fun e he => by
        have : He.keyOf e ∈ He.keysIn P ks := by
          rw [← hk]
          exact List.mem_map_of_mem he
        obtain ⟨k, hk1, hk2⟩ := List.mem_map.mp this
        unfold He.keyOf at hk2
        split at hk2
        · rename_i x t q
          have h4 := Option.some.inj hk2
          obtain ⟨h5, _⟩ := Prod.mk.inj h4
          exact ⟨x, t, q, h5 ▸ hk1⟩
        · cases hk2
      unfold PySem.W.nsIn
      rw [q]
      have h1 : es.toList.find? (·.key.isStr z) = none := by
        rw [List.find?_eq_none]
        intro e he hc
        obtain ⟨x, t, e1, e2⟩ := key e he
        rw [e1] at hc
        exact hz ((eq_of_beq hc : x = z) ▸ e2)
      have h2 : es.toList.any (·.refKey) = false := by
        rw [List.any_eq_false]
        intro e he hc
        obtain ⟨x, t, e1, e2⟩ := key e he
        unfold DictEntry.refKey at hc
        rw [e1] at hc
        cases hc
      show (match es.toList.find? (·.key.isStr z) with
        | some e => some (some e.val)
        | none => if es.toList.any (·.refKey) then none else some none) = some none
      rw [h1]
      show (if es.toList.any (·.refKey) then none else some none) = some none
      rw [h2]
      rfl
    · cases h
  · cases h
def adr (K : PySem.W.Frag) : Adr := ⟨He.ga K "Book", He.ga K "Message", He.ga K "Reader", He.ga K "BadLine", He.ga K "BadFrame", He.ga K "EMPTY", He.ga K "VERSIONS"⟩
set_option maxHeartbeats 4000000 in
theorem txt_of {K : PySem.W.Frag} {w : World} {h : Heap} {mg : Str → Option Value} (X : K.In h) (G : h.Ns mainGlobals mg) (cp : SaysP w K) : Txt K w mg (adr K) := by
  have c0 : He.SaysT fa fn ts w K := congrArg (fun z : AlP => z.1) cp
  have c := c0.d
  have hm : more K = true := congrArg (fun z : AlP => z.2.1) cp
  have hget : fnAt K (proG K) = getV := congrArg (fun z : AlP => z.2.2) cp
  have hdic : He.dicW K (He.ga K "VERSIONS") = some (He.keysIn w.params ["HTTP/1.0", "HTTP/1.1"]) := by
    have := congrArg (fun z : He.AlT => z.2) c0
    have e : [He.dicW K (He.ga K "VERSIONS")] = [some (He.keysIn w.params ["HTTP/1.0", "HTTP/1.1"])] := this
    injection e
  unfold more at hm
  obtain ⟨hfm, hm⟩ := He.ba hm
  obtain ⟨hexl, hm⟩ := He.ba hm
  obtain ⟨hexf, hm⟩ := He.ba hm
  obtain ⟨hins, hm⟩ := He.ba hm
  obtain ⟨hpro, hm⟩ := He.ba hm
  obtain ⟨hemp, hver⟩ := He.ba hm
  have fm : ∀ f ∈ fa_more, f.ok K = true := fun f hf => List.all_eq_true.mp hfm f hf
  have hexl := excB_ok hexl
  have hexf := excB_ok hexf
  exact {
    c_CHARACTERS := gv_str X G (c.fact 9 (f := .str "CHARACTERS" " !\"#$&'()*+,-./0123456789:;<=>?@ABCDEFGHIJKLMNOPQRSTUVWXYZ[\\]^_`abcdefghijklmnopqrstuvwxyz{|}~") rfl),
    c_MOST_OCTETS := gv_int X G (c.fact 10 (f := .int "MOST_OCTETS" 4000) rfl),
    c_RETURN_octets := gv_int X G (c.fact 11 (f := .int "RETURN_octets" 13) rfl),
    c_FEED_octets := gv_int X G (c.fact 12 (f := .int "FEED_octets" 10) rfl),
    c_TAB := gv_int X G (c.fact 13 (f := .int "TAB" 9) rfl),
    c_PERCENT := gv_int X G (c.fact 14 (f := .int "PERCENT" 37) rfl),
    c_FIRST := gv_int X G (c.fact 15 (f := .int "FIRST" 32) rfl),
    c_LAST := gv_int X G (c.fact 16 (f := .int "LAST" 126) rfl),
    c_REFUSE := gv_str X G (c.fact 25 (f := .str "REFUSE" "refuse") rfl),
    c_CHUNKED_books := gv_str X G (c.fact 26 (f := .str "CHUNKED_books" "chunked") rfl),
    c_EQUAL := gv_str X G (c.fact 27 (f := .str "EQUAL" "equal") rfl),
    c_ACCEPT := gv_str X G (c.fact 28 (f := .str "ACCEPT" "accept") rfl),
    c_REQUEST := gv_str X G (c.fact 34 (f := .str "REQUEST" "request") rfl),
    c_RESPONSE := gv_str X G (c.fact 35 (f := .str "RESPONSE" "response") rfl),
    c_INFO_events := gv_str X G (c.fact 36 (f := .str "INFO_events" "info") rfl),
    c_DATA := gv_str X G (c.fact 37 (f := .str "DATA" "data") rfl),
    c_END := gv_str X G (c.fact 38 (f := .str "END" "end") rfl),
    c_RAW := gv_str X G (c.fact 39 (f := .str "RAW" "raw") rfl),
    c_CLOSE_events := gv_str X G (c.fact 40 (f := .str "CLOSE_events" "close") rfl),
    c_ERROR := gv_str X G (c.fact 41 (f := .str "ERROR" "error") rfl),
    c_REQUESTS := gv_str X G (c.fact 42 (f := .str "REQUESTS" "requests") rfl),
    c_RESPONSES := gv_str X G (c.fact 43 (f := .str "RESPONSES" "responses") rfl),
    c_START := gv_str X G (c.fact 44 (f := .str "START" "start") rfl),
    c_HEAD := gv_str X G (c.fact 45 (f := .str "HEAD" "head") rfl),
    c_BODY := gv_str X G (c.fact 46 (f := .str "BODY" "body") rfl),
    c_WAITING := gv_str X G (c.fact 47 (f := .str "WAITING" "waiting") rfl),
    c_SWITCHED := gv_str X G (c.fact 48 (f := .str "SWITCHED" "raw") rfl),
    c_OVER := gv_str X G (c.fact 49 (f := .str "OVER" "over") rfl),
    c_CLOSED := gv_str X G (c.fact 50 (f := .str "CLOSED" "closed") rfl),
    c_WRONG := gv_str X G (c.fact 51 (f := .str "WRONG" "wrong") rfl),
    c_LETTERS := gv_str X G (c.fact 54 (f := .str "LETTERS" "abcdefghijklmnopqrstuvwxyz") rfl),
    c_DIGITS := gv_str X G (c.fact 55 (f := .str "DIGITS" "0123456789") rfl),
    c_TOKEN_SIGNS := gv_str X G (c.fact 56 (f := .str "TOKEN_SIGNS" "!#$&'*+-.^_`|~") rfl),
    c_LENGTH_frames := gv_str X G (c.fact 61 (f := .str "LENGTH_frames" "length") rfl),
    c_CHUNKED_frames := gv_str X G (c.fact 62 (f := .str "CHUNKED_frames" "chunked") rfl),
    c_CLOSE_frames := gv_str X G (c.fact 63 (f := .str "CLOSE_frames" "close") rfl),
    c_INFO_frames := gv_str X G (c.fact 64 (f := .str "INFO_frames" "info") rfl),
    c_SWITCH := gv_str X G (c.fact 65 (f := .str "SWITCH" "switch") rfl),
    c_CODING_FIELD := gv_str X G (c.fact 66 (f := .str "CODING_FIELD" "transfer-encoding") rfl),
    c_LENGTH_FIELD := gv_str X G (c.fact 67 (f := .str "LENGTH_FIELD" "content-length") rfl),
    c_SWITCHING := gv_int X G (c.fact 68 (f := .int "SWITCHING" 101) rfl),
    c_HEXADECIMAL := gv_str X G (c.fact 79 (f := .str "HEXADECIMAL" "0123456789abcdef") rfl),
    c_MOST_SIZE_DIGITS := gv_int X G (c.fact 80 (f := .int "MOST_SIZE_DIGITS" 6) rfl),
    c_RETURN_reader := gv_int X G (c.fact 87 (f := .int "RETURN_reader" 13) rfl),
    c_FEED_reader := gv_int X G (c.fact 88 (f := .int "FEED_reader" 10) rfl),
    c_NONE := gv_str X G (c.fact 89 (f := .str "NONE" "") rfl),
    c_LENGTH_reader := gv_str X G (c.fact 90 (f := .str "LENGTH_reader" "length") rfl),
    c_SIZE := gv_str X G (c.fact 91 (f := .str "SIZE" "size") rfl),
    c_CHUNK := gv_str X G (c.fact 92 (f := .str "CHUNK" "chunk") rfl),
    c_CHUNK_END := gv_str X G (c.fact 93 (f := .str "CHUNK_END" "chunk end") rfl),
    c_TRAILERS := gv_str X G (c.fact 94 (f := .str "TRAILERS" "trailers") rfl),
    c_REST := gv_str X G (c.fact 95 (f := .str "REST" "rest") rfl),
    c_EMPTY := He.glo_ok X G (c.fact 69 (f := .glo "EMPTY") rfl),
    t_EMPTY := fun H => He.tupB_ok (vs := [.int 204, .int 304]) hemp H,
    c_VERSIONS := He.glo_ok X G (c.fact 78 (f := .glo "VERSIONS") rfl),
    t_VERSIONS := c0.tab 0 (t := (fun K => He.ga K "VERSIONS", ["HTTP/1.0", "HTTP/1.1"])) rfl,
    v0 := He.valsB_ok hver (q := ("HTTP/1.0", .int 0)) (by unfold vers; simp),
    v1 := He.valsB_ok hver (q := ("HTTP/1.1", .int 1)) (by unfold vers; simp),
    vn := fun z h0 h1 => dicW_none hdic (by simp only [List.mem_cons, List.not_mem_nil, or_false]; rintro (h | h); exact h0 h; exact h1 h),
    g_Book := He.glo_ok X G (c.fact 31 (f := .glo "Book") rfl),
    g_Message := He.glo_ok X G (c.fact 53 (f := .glo "Message") rfl),
    g_Reader := He.glo_ok X G (c.fact 96 (f := .glo "Reader") rfl),
    g_BadLine := He.glo_ok X G (c.fact 3 (f := .glo "BadLine") rfl),
    g_BadFrame := He.glo_ok X G (c.fact 5 (f := .glo "BadFrame") rfl),
    cl_Book := He.cls_ok (c.fact 123 (f := .cls "Book") rfl),
    n_Book_both := He.noat_ok (c.fact 125 (f := .noat "Book" "both") rfl),
    n_Book_lengths := He.noat_ok (c.fact 126 (f := .noat "Book" "lengths") rfl),
    n_Book_old_chunked := He.noat_ok (c.fact 127 (f := .noat "Book" "old_chunked") rfl),
    n_Book_keep_old := He.noat_ok (c.fact 128 (f := .noat "Book" "keep_old") rfl),
    n_Book_most_line := He.noat_ok (c.fact 129 (f := .noat "Book" "most_line") rfl),
    n_Book_most_fields := He.noat_ok (c.fact 130 (f := .noat "Book" "most_fields") rfl),
    n_Book_most_digits := He.noat_ok (c.fact 131 (f := .noat "Book" "most_digits") rfl),
    cl_Message := He.cls_ok (c.fact 132 (f := .cls "Message") rfl),
    n_Message_method := He.noat_ok (c.fact 134 (f := .noat "Message" "method") rfl),
    n_Message_upgrade := He.noat_ok (c.fact 135 (f := .noat "Message" "upgrade") rfl),
    n_Message_last := He.noat_ok (c.fact 136 (f := .noat "Message" "last") rfl),
    cl_Reader := He.cls_ok (c.fact 137 (f := .cls "Reader") rfl),
    n_Reader_book := He.noat_ok (c.fact 139 (f := .noat "Reader" "book") rfl),
    n_Reader_kind := He.noat_ok (c.fact 140 (f := .noat "Reader" "kind") rfl),
    n_Reader_now := He.noat_ok (c.fact 141 (f := .noat "Reader" "now") rfl),
    n_Reader_part := He.noat_ok (c.fact 142 (f := .noat "Reader" "part") rfl),
    n_Reader_count := He.noat_ok (c.fact 143 (f := .noat "Reader" "count") rfl),
    n_Reader_line := He.noat_ok (c.fact 144 (f := .noat "Reader" "line") rfl),
    n_Reader_is_ending := He.noat_ok (c.fact 145 (f := .noat "Reader" "is_ending") rfl),
    n_Reader_start := He.noat_ok (c.fact 146 (f := .noat "Reader" "start") rfl),
    n_Reader_fields := He.noat_ok (c.fact 147 (f := .noat "Reader" "fields") rfl),
    n_Reader_left := He.noat_ok (c.fact 148 (f := .noat "Reader" "left") rfl),
    n_Reader_expected := He.noat_ok (c.fact 149 (f := .noat "Reader" "expected") rfl),
    n_Reader_message := He.noat_ok (c.fact 150 (f := .noat "Reader" "message") rfl),
    n_Reader_is_last := He.noat_ok (c.fact 151 (f := .noat "Reader" "is_last") rfl),
    n_Reader_skips_wait := He.noat_ok (c.fact 152 (f := .noat "Reader" "skips_wait") rfl),
    n_Reader_is_closed := He.noat_ok (c.fact 153 (f := .noat "Reader" "is_closed") rfl),
    is_Book := insB_ok (He.cls_ok (c.fact 123 (f := .cls "Book") rfl)) hins,
    x_LL := He.exm_ok (x := "BadLine") (y := "BadLine") (b := true) (fm (.exm "BadLine" "BadLine" true) (by unfold fa_more; simp)),
    x_FL := He.exm_ok (x := "BadFrame") (y := "BadLine") (b := false) (fm (.exm "BadFrame" "BadLine" false) (by unfold fa_more; simp)),
    x_FF := He.exm_ok (x := "BadFrame") (y := "BadFrame") (b := true) (fm (.exm "BadFrame" "BadFrame" true) (by unfold fa_more; simp)),
    b_isinstance := He.free_ok X G (c.fact 171 (f := .free "isinstance") rfl),
    b_int := He.free_ok X G (c.fact 172 (f := .free "int") rfl),
    b_bool := He.free_ok X G (c.fact 173 (f := .free "bool") rfl),
    b_len := He.free_ok X G (c.fact 174 (f := .free "len") rfl),
    b_all := He.free_ok X G (c.fact 175 (f := .free "all") rfl),
    b_list := He.free_ok X G (c.fact 176 (f := .free "list") rfl),
    b_str := He.free_ok X G (c.fact 177 (f := .free "str") rfl),
    b_enumerate := He.free_ok X G (c.fact 178 (f := .free "enumerate") rfl),
    b_tuple := He.free_ok X G (c.fact 179 (f := .free "tuple") rfl),
    b_min := He.free_ok X G (c.fact 180 (f := .free "min") rfl),
    b_max := He.free_ok X G (c.fact 181 (f := .free "max") rfl),
    b_abs := He.free_ok X G (c.fact 182 (f := .free "abs") rfl),
    b_range := He.free_ok X G (c.fact 183 (f := .free "range") rfl),
    b_ValueError := He.free_ok X G (c.fact 184 (f := .free "ValueError") rfl),
    d_BadLine_init := ⟨_, _, exct hexl (He.noat_ok (x := "BadLine") (f := "kind") (fm (.noat "BadLine" "kind") (by unfold fa_more; simp))), (c.def_ 0 (d := d_BadLine_init) rfl).choose_spec⟩,
    d_BadFrame_init := ⟨_, _, exct hexf (He.noat_ok (x := "BadFrame") (f := "kind") (fm (.noat "BadFrame" "kind") (by unfold fa_more; simp))), (c.def_ 1 (d := d_BadFrame_init) rfl).choose_spec⟩,
    d_is_integer := ⟨_, _, He.glo_ok X G (c.fact 17 (f := .glo "is_integer") rfl), (c.def_ 2 (d := d_is_integer) rfl).choose_spec⟩,
    d_is_octet := ⟨_, _, He.glo_ok X G (c.fact 18 (f := .glo "is_octet") rfl), (c.def_ 3 (d := d_is_octet) rfl).choose_spec⟩,
    d_is_data := ⟨_, _, He.glo_ok X G (c.fact 19 (f := .glo "is_data") rfl), (c.def_ 4 (d := d_is_data) rfl).choose_spec⟩,
    d_is_line_octet := ⟨_, _, He.glo_ok X G (c.fact 20 (f := .glo "is_line_octet") rfl), (c.def_ 5 (d := d_is_line_octet) rfl).choose_spec⟩,
    d_shown := ⟨_, _, He.glo_ok X G (c.fact 21 (f := .glo "shown") rfl), (c.def_ 6 (d := d_shown) rfl).choose_spec⟩,
    d_line_text := ⟨_, _, He.glo_ok X G (c.fact 22 (f := .glo "line_text") rfl), (c.def_ 7 (d := d_line_text) rfl).choose_spec⟩,
    d_code_of := ⟨_, _, He.glo_ok X G (c.fact 23 (f := .glo "code_of") rfl), (c.def_ 8 (d := d_code_of) rfl).choose_spec⟩,
    d_octets := ⟨_, _, He.glo_ok X G (c.fact 24 (f := .glo "octets") rfl), (c.def_ 9 (d := d_octets) rfl).choose_spec⟩,
    d_is_within := ⟨_, _, He.glo_ok X G (c.fact 29 (f := .glo "is_within") rfl), (c.def_ 10 (d := d_is_within) rfl).choose_spec⟩,
    d_is_one_of := ⟨_, _, He.glo_ok X G (c.fact 30 (f := .glo "is_one_of") rfl), (c.def_ 11 (d := d_is_one_of) rfl).choose_spec⟩,
    d_Book_init := ⟨_, _, He.mkr_ok (c.fact 124 (f := .mkr "Book") rfl), (c.def_ 12 (d := d_Book_init) rfl).choose_spec⟩,
    d_book_of := ⟨_, _, He.glo_ok X G (c.fact 33 (f := .glo "book_of") rfl), (c.def_ 13 (d := d_book_of) rfl).choose_spec⟩,
    d_joined := ⟨_, _, He.glo_ok X G (c.fact 52 (f := .glo "joined") rfl), (c.def_ 14 (d := d_joined) rfl).choose_spec⟩,
    d_Message_init := ⟨_, _, He.mkr_ok (c.fact 133 (f := .mkr "Message") rfl), (c.def_ 15 (d := d_Message_init) rfl).choose_spec⟩,
    d_Message_asks_switch := ⟨_, _, He.meth_ok (c.fact 154 (f := .meth "Message" "asks_switch") rfl), (c.def_ 16 (d := d_Message_asks_switch) rfl).choose_spec⟩,
    d_is_string := ⟨_, _, He.glo_ok X G (c.fact 57 (f := .glo "is_string") rfl), (c.def_ 17 (d := d_is_string) rfl).choose_spec⟩,
    d_is_token := ⟨_, _, He.glo_ok X G (c.fact 58 (f := .glo "is_token") rfl), (c.def_ 18 (d := d_is_token) rfl).choose_spec⟩,
    d_read_field := ⟨_, _, He.glo_ok X G (c.fact 59 (f := .glo "read_field") rfl), (c.def_ 19 (d := d_read_field) rfl).choose_spec⟩,
    d_items_of := ⟨_, _, He.glo_ok X G (c.fact 60 (f := .glo "items_of") rfl), (c.def_ 20 (d := d_items_of) rfl).choose_spec⟩,
    d_has_field := ⟨_, _, He.glo_ok X G (c.fact 70 (f := .glo "has_field") rfl), (c.def_ 21 (d := d_has_field) rfl).choose_spec⟩,
    d_is_length := ⟨_, _, He.glo_ok X G (c.fact 71 (f := .glo "is_length") rfl), (c.def_ 22 (d := d_is_length) rfl).choose_spec⟩,
    d_frame_error := ⟨_, _, He.glo_ok X G (c.fact 72 (f := .glo "frame_error") rfl), (c.def_ 23 (d := d_frame_error) rfl).choose_spec⟩,
    d_plain_frame := ⟨_, _, He.glo_ok X G (c.fact 73 (f := .glo "plain_frame") rfl), (c.def_ 24 (d := d_plain_frame) rfl).choose_spec⟩,
    d_request_frame := ⟨_, _, He.glo_ok X G (c.fact 74 (f := .glo "request_frame") rfl), (c.def_ 25 (d := d_request_frame) rfl).choose_spec⟩,
    d_response_frame := ⟨_, _, He.glo_ok X G (c.fact 75 (f := .glo "response_frame") rfl), (c.def_ 26 (d := d_response_frame) rfl).choose_spec⟩,
    d_persists := ⟨_, _, He.glo_ok X G (c.fact 76 (f := .glo "persists") rfl), (c.def_ 27 (d := d_persists) rfl).choose_spec⟩,
    d_asks_upgrade := ⟨_, _, He.glo_ok X G (c.fact 77 (f := .glo "asks_upgrade") rfl), (c.def_ 28 (d := d_asks_upgrade) rfl).choose_spec⟩,
    d_has_version_form := ⟨_, _, He.glo_ok X G (c.fact 81 (f := .glo "has_version_form") rfl), (c.def_ 29 (d := d_has_version_form) rfl).choose_spec⟩,
    d_version_of := ⟨_, _, He.glo_ok X G (c.fact 82 (f := .glo "version_of") rfl), (c.def_ 30 (d := d_version_of) rfl).choose_spec⟩,
    d_read_request := ⟨_, _, He.glo_ok X G (c.fact 83 (f := .glo "read_request") rfl), (c.def_ 31 (d := d_read_request) rfl).choose_spec⟩,
    d_is_status_word := ⟨_, _, He.glo_ok X G (c.fact 84 (f := .glo "is_status_word") rfl), (c.def_ 32 (d := d_is_status_word) rfl).choose_spec⟩,
    d_read_status := ⟨_, _, He.glo_ok X G (c.fact 85 (f := .glo "read_status") rfl), (c.def_ 33 (d := d_read_status) rfl).choose_spec⟩,
    d_read_size := ⟨_, _, He.glo_ok X G (c.fact 86 (f := .glo "read_size") rfl), (c.def_ 34 (d := d_read_size) rfl).choose_spec⟩,
    d_Reader_init := ⟨_, _, He.mkr_ok (c.fact 138 (f := .mkr "Reader") rfl), (c.def_ 35 (d := d_Reader_init) rfl).choose_spec⟩,
    d_Reader_look_open := ⟨_, _, He.meth_ok (c.fact 155 (f := .meth "Reader" "look_open") rfl), (c.def_ 36 (d := d_Reader_look_open) rfl).choose_spec⟩,
    d_Reader_feed := ⟨_, _, He.meth_ok (c.fact 156 (f := .meth "Reader" "feed") rfl), (c.def_ 37 (d := d_Reader_feed) rfl).choose_spec⟩,
    d_Reader_read_some := ⟨_, _, He.meth_ok (c.fact 157 (f := .meth "Reader" "read_some") rfl), (c.def_ 38 (d := d_Reader_read_some) rfl).choose_spec⟩,
    d_Reader_read_run := ⟨_, _, He.meth_ok (c.fact 158 (f := .meth "Reader" "read_run") rfl), (c.def_ 39 (d := d_Reader_read_run) rfl).choose_spec⟩,
    d_Reader_fail := ⟨_, _, He.meth_ok (c.fact 159 (f := .meth "Reader" "fail") rfl), (c.def_ 40 (d := d_Reader_fail) rfl).choose_spec⟩,
    d_Reader_read_octet := ⟨_, _, He.meth_ok (c.fact 160 (f := .meth "Reader" "read_octet") rfl), (c.def_ 41 (d := d_Reader_read_octet) rfl).choose_spec⟩,
    d_Reader_read_chunk_end := ⟨_, _, He.meth_ok (c.fact 161 (f := .meth "Reader" "read_chunk_end") rfl), (c.def_ 42 (d := d_Reader_read_chunk_end) rfl).choose_spec⟩,
    d_Reader_read_line_end := ⟨_, _, He.meth_ok (c.fact 162 (f := .meth "Reader" "read_line_end") rfl), (c.def_ 43 (d := d_Reader_read_line_end) rfl).choose_spec⟩,
    d_Reader_read_line := ⟨_, _, He.meth_ok (c.fact 163 (f := .meth "Reader" "read_line") rfl), (c.def_ 44 (d := d_Reader_read_line) rfl).choose_spec⟩,
    d_Reader_begin_chunk := ⟨_, _, He.meth_ok (c.fact 164 (f := .meth "Reader" "begin_chunk") rfl), (c.def_ 45 (d := d_Reader_begin_chunk) rfl).choose_spec⟩,
    d_Reader_read_start := ⟨_, _, He.meth_ok (c.fact 165 (f := .meth "Reader" "read_start") rfl), (c.def_ 46 (d := d_Reader_read_start) rfl).choose_spec⟩,
    d_Reader_read_field_line := ⟨_, _, He.meth_ok (c.fact 166 (f := .meth "Reader" "read_field_line") rfl), (c.def_ 47 (d := d_Reader_read_field_line) rfl).choose_spec⟩,
    d_Reader_end_head := ⟨_, _, He.meth_ok (c.fact 167 (f := .meth "Reader" "end_head") rfl), (c.def_ 48 (d := d_Reader_end_head) rfl).choose_spec⟩,
    d_Reader_begin_body := ⟨_, _, He.meth_ok (c.fact 168 (f := .meth "Reader" "begin_body") rfl), (c.def_ 49 (d := d_Reader_begin_body) rfl).choose_spec⟩,
    d_Reader_end_message := ⟨_, _, He.meth_ok (c.fact 169 (f := .meth "Reader" "end_message") rfl), (c.def_ 50 (d := d_Reader_end_message) rfl).choose_spec⟩,
    d_Reader_expect := ⟨_, _, He.meth_ok (c.fact 170 (f := .meth "Reader" "expect") rfl), (c.def_ 51 (d := d_Reader_expect) rfl).choose_spec⟩,
    d__law_bag := ⟨_, _, He.glo_ok X G (c.fact 97 (f := .glo "_law_bag") rfl), (c.def_ 52 (d := d__law_bag) rfl).choose_spec⟩,
    d__law_take := ⟨_, _, He.glo_ok X G (c.fact 98 (f := .glo "_law_take") rfl), (c.def_ 53 (d := d__law_take) rfl).choose_spec⟩,
    d__law_pick := ⟨_, _, He.glo_ok X G (c.fact 99 (f := .glo "_law_pick") rfl), (c.def_ 54 (d := d__law_pick) rfl).choose_spec⟩,
    d__law_book := ⟨_, _, He.glo_ok X G (c.fact 100 (f := .glo "_law_book") rfl), (c.def_ 55 (d := d__law_book) rfl).choose_spec⟩,
    d__law_line := ⟨_, _, He.glo_ok X G (c.fact 101 (f := .glo "_law_line") rfl), (c.def_ 56 (d := d__law_line) rfl).choose_spec⟩,
    d__law_read := ⟨_, _, He.glo_ok X G (c.fact 102 (f := .glo "_law_read") rfl), (c.def_ 57 (d := d__law_read) rfl).choose_spec⟩,
    d__law_fail := ⟨_, _, He.glo_ok X G (c.fact 103 (f := .glo "_law_fail") rfl), (c.def_ 58 (d := d__law_fail) rfl).choose_spec⟩,
    d__law_next_line := ⟨_, _, He.glo_ok X G (c.fact 104 (f := .glo "_law_next_line") rfl), (c.def_ 59 (d := d__law_next_line) rfl).choose_spec⟩,
    d__law_fields := ⟨_, _, He.glo_ok X G (c.fact 105 (f := .glo "_law_fields") rfl), (c.def_ 60 (d := d__law_fields) rfl).choose_spec⟩,
    d__law_message := ⟨_, _, He.glo_ok X G (c.fact 106 (f := .glo "_law_message") rfl), (c.def_ 61 (d := d__law_message) rfl).choose_spec⟩,
    d__law_data := ⟨_, _, He.glo_ok X G (c.fact 107 (f := .glo "_law_data") rfl), (c.def_ 62 (d := d__law_data) rfl).choose_spec⟩,
    d__law_body := ⟨_, _, He.glo_ok X G (c.fact 108 (f := .glo "_law_body") rfl), (c.def_ 63 (d := d__law_body) rfl).choose_spec⟩,
    d__law_chunks := ⟨_, _, He.glo_ok X G (c.fact 109 (f := .glo "_law_chunks") rfl), (c.def_ 64 (d := d__law_chunks) rfl).choose_spec⟩,
    d__law_head := ⟨_, _, He.glo_ok X G (c.fact 110 (f := .glo "_law_head") rfl), (c.def_ 65 (d := d__law_head) rfl).choose_spec⟩,
    d__law_lines_of := ⟨_, _, He.glo_ok X G (c.fact 111 (f := .glo "_law_lines_of") rfl), (c.def_ 66 (d := d__law_lines_of) rfl).choose_spec⟩,
    d__law_framing := ⟨_, _, He.glo_ok X G (c.fact 112 (f := .glo "_law_framing") rfl), (c.def_ 67 (d := d__law_framing) rfl).choose_spec⟩,
    d__law_chunked := ⟨_, _, He.glo_ok X G (c.fact 113 (f := .glo "_law_chunked") rfl), (c.def_ 68 (d := d__law_chunked) rfl).choose_spec⟩,
    d__law_one := ⟨_, _, He.glo_ok X G (c.fact 114 (f := .glo "_law_one") rfl), (c.def_ 69 (d := d__law_one) rfl).choose_spec⟩,
    d__law_spoilt_data := ⟨_, _, He.glo_ok X G (c.fact 115 (f := .glo "_law_spoilt_data") rfl), (c.def_ 70 (d := d__law_spoilt_data) rfl).choose_spec⟩,
    d__law_stream := ⟨_, _, He.glo_ok X G (c.fact 116 (f := .glo "_law_stream") rfl), (c.def_ 71 (d := d__law_stream) rfl).choose_spec⟩,
    d__law_asks := ⟨_, _, He.glo_ok X G (c.fact 117 (f := .glo "_law_asks") rfl), (c.def_ 72 (d := d__law_asks) rfl).choose_spec⟩,
    d__law_reader := ⟨_, _, He.glo_ok X G (c.fact 118 (f := .glo "_law_reader") rfl), (c.def_ 73 (d := d__law_reader) rfl).choose_spec⟩,
    d__law_start := ⟨_, _, He.glo_ok X G (c.fact 119 (f := .glo "_law_start") rfl), (c.def_ 74 (d := d__law_start) rfl).choose_spec⟩,
    d__law_field := ⟨_, _, He.glo_ok X G (c.fact 120 (f := .glo "_law_field") rfl), (c.def_ 75 (d := d__law_field) rfl).choose_spec⟩,
    d__law_frame := ⟨_, _, He.glo_ok X G (c.fact 121 (f := .glo "_law_frame") rfl), (c.def_ 76 (d := d__law_frame) rfl).choose_spec⟩,
    d_law := ⟨_, _, He.glo_ok X G (c.fact 122 (f := .glo "law") rfl), (c.def_ 77 (d := d_law) rfl).choose_spec⟩,
    d_Reader_state := ⟨_, _, proB_ok hpro hget⟩ }
end K32H

namespace K32H
open PySem PySem.Spec PyProof.Rows L2 K32
theorem law_fn {P : Program} {w : World} {K : PySem.W.Frag} {h : Heap} {mg : Str → Option Value} {f : Addr} (X : K.In h) (G : h.Ns mainGlobals mg) (hfa : mg ("law" : Str) = some (.ref f)) (c : SaysP w K) :
    ∃ fd : FuncData, (∀ (s : Shared) (v : Value), BindsTo s fd ⟨[v], []⟩ [("_law_script", v)]) ∧ ∀ base : Heap, K.In base → base.Ns mainGlobals mg → FnOk P w K mg base CX0 13 f fd ["_law_script"] (sp_law K) := by
  have T := txt_of X G c
  obtain ⟨f', fd, hm, F⟩ := T.d_law.ex
  have e := hfa.symm.trans hm
  cases e
  have b := FunD.bindsA (ps := ["_law_script"]) F fun _ _ _ _ _ _ us hl => match us, hl with | [_], _ => rfl
  exact ⟨fd, fun s v => b s [v] rfl, fun base _ _ => ok_law T F⟩
end K32H
open PySem PySem.W PySem.Calls PyProof.Rows
set_option maxRecDepth 100000 in
set_option maxHeartbeats 0 in
theorem PySem.Challenge.cw_chunkletters_k32_whole_octet_by_octet_holds : PySem.Challenge.rw_chunkletters_k32_whole_octet_by_octet.Holds := by
  w_on; o_law
  refine HandSHeadRun.head_any (r := K32H.R) (q := view K32H.R.prog [131]) (H := K32H.hookP) (ob := K32H.ob) (M := 20000) (loose := K32H.loose) (d := HandSHeadRun.topDef K32H.R.prog 131) (kwd := []) K32H.ob_eq
    (by kernel_rfl) (fun s => by kernel_rfl) K32H.run (by kernel_rfl) (by kernel_rfl) (by kernel_rfl) (by rfl) (by first | assumption | decide +kernel) (by decide +kernel) ⟨rfl, rfl, rfl, rfl, rfl, by decide +kernel⟩ ?hw ?hc
  case hw => w_witness2
  case hc =>
    refine L2.walk_ofE (l := PySem.Challenge.rw_chunkletters_k32_whole_octet_by_octet) (n := 63) (k := 13) (x := "_law_script") (CX := L2.CX0) rfl (by decide) (by kernel_rfl) ⟨by decide, by decide, by decide⟩ ?F (fun _ _ _ _ z => z)
    intro w mg fa h Y G hmg0
    obtain ⟨K, KX, c⟩ := Y
    have hmg : mg ("law" : PySem.Str) = some (.ref fa) := by
      have e : (HandSHeadRun.topDef K32H.R.prog 131).name = ("law" : PySem.Str) := by kernel_rfl
      rw [← e]
      exact hmg0
    obtain ⟨fd, hb, hF⟩ := K32H.law_fn (P := PySem.Challenge.pw_chunkletters_k32_whole_octet_by_octet) (w := w) KX G hmg c
    exact ⟨K, fd, K32.sp_law K, KX, hb, fun H a ns hl _ hS => ⟨a, ns, rfl, hS, hl, fun _ => rfl⟩, hF⟩

