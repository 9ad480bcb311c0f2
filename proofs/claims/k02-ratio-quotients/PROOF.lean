import PyProof.Rows.All
import Wide.All
import OpenK.AllK
import Wide.FinOn
import KE.KStateDown
import Lean
import HandS.ForMost
import HandS.ForExc
import HandS.More
import HandS.Wide
import HandS.WideMore
import HandS.Flow
import HandS.Style
import HandS.IsInst
import HandS.TryMany
import HandS.TryElse
import HandS.ExcBuiltin
import HandS.ExcSuper
import HandS.ExcField
import HandS.ExcIs
import HandS.RaiseMore
import HandS.SuiteRaise
import HandS.EndBits
import HandS.Property
import HandS.MakeKw
import HandS.MakeKwOnly
import HandS.FStr
import HandS.Zip
import HandS.Conv
import HandS.Deep
import HandS.OwnEq
import HandS.Strs
import HandS.Small
import HandS.TupAny
import HandS.TupLe
import HandS.ClsMeth
import HandS.CallRecv
import HandS.Codes
import HandS.Evl
import HandS.Steps
import HandS.Defaults
import HandS.Head0
import HandS.Head1
import HandS.Head2
import HandS.HeadEnd
import HandS.HeadHook1
import HandS.HeadHook2
import PySem.Challenge.RW_pairahead_k02_ratio_quotients
set_option Elab.async false
set_option linter.all false
set_option maxRecDepth 100000
set_option maxHeartbeats 4000000
namespace PB
open PySem PySem.Spec PyProof.Rows L2

/-! ## defs by names -/
def OkF (P : Program) (w : World) (K : PySem.W.Frag) (mg : Str → Option Value) (base : Heap) (CX : CXT) (k : Nat) (x : Str) (ps : List Str) (dvs : List V) (sp : Sp) : Prop :=
  ∃ (fd : FuncData) (ds : List Value), FnOk P w K mg base CX k (He.ga K x) fd ps sp ∧ mg x = some (.ref (He.ga K x)) ∧ PySem.W.keepIn K (.ref (He.ga K x)) = true ∧ Binds K fd ps ds ∧ Vals dvs ds
def OkM (P : Program) (w : World) (K : PySem.W.Frag) (mg : Str → Option Value) (base : Heap) (CX : CXT) (k : Nat) (c m : Str) (ps : List Str) (dvs : List V) (sp : Sp) : Prop :=
  ∃ (fd : FuncData) (ds : List Value), FnOk P w K mg base CX k (He.ma K (He.ga K c) m) fd ps sp ∧ Cls K (He.ga K c) ∧ Meth K (He.ga K c) m (He.ma K (He.ga K c) m) ∧ Binds K fd ps ds ∧ Vals dvs ds
/-- C(..): the class's maker and its __init__ -/
def OkC (P : Program) (w : World) (K : PySem.W.Frag) (mg : Str → Option Value) (base : Heap) (CX : CXT) (k : Nat) (c : Str) (ps : List Str) (dvs : List V) (sp : Sp) : Prop :=
  ∃ (fd : FuncData) (ds : List Value), FnOk P w K mg base CX k (He.ma K (He.ga K c) "__init__") fd ps sp ∧ mg c = some (.ref (He.ga K c)) ∧ Mk K (He.ga K c) (He.ma K (He.ga K c) "__init__") ∧ Binds K fd ps ds ∧ Vals dvs ds
/-! calls; W: what is wished of an exception, by the caller's slots -/
abbrev W0 : WX := fun _ _ _ _ => False
def tCallG (sp : Sp) (dvs : List V) (W : WX) (t : TA) : TE := fun σ H Q => t σ H fun vs H1 => sp (vs ++ dvs) H1 Q (WE W σ)
def tMethG (C : Addr) (m : Str) (sp : Sp) (dvs : List V) (W : WX) (ta : TE) (t : TA) : TE := fun σ H Q => ta σ H fun x H1 => ∃ a dx fs, x = .ref a ∧ H1 a = some (.ins C dx fs) ∧ fs.lookup m = none ∧
  t σ H1 fun vs H2 => sp (x :: (vs ++ dvs)) H2 Q (WE W σ)
def tMakeG (C : Addr) (sp : Sp) (dvs : List V) (W : WX) (t : TA) : TE := fun σ H Q => t σ H fun vs H1 => ∀ x dx, H1 x = none → H1 dx = none → dx ≠ x →
  sp (.ref x :: (vs ++ dvs)) (upd (upd H1 dx (.own x)) x (.ins C dx [])) (fun v H2 => v = .non ∧ Q (.ref x) H2) (WE W σ)
section
variable {X : Cx} {CX : CXT} {k : Nat} {f C : Addr} {fd : FuncData} {x c m : Str} {ps : List Str} {dvs : List V} {ds : List Value} {sp : Sp} {W : WX} {E : XK} {p pos apos : Pos} {e o : Expr} {es : List Expr} {t : TA} {ta : TE}
theorem pas0 : ∀ σ, PassesAt CX0 X σ (WE W0 σ) := fun _ _ _ _ _ _ _ h => h.elim
theorem pasT (tk : Takes X W) : ∀ σ, PassesAt (L2.CX X.prog X.w) X σ (WE W σ) := fun σ => passAt tk σ
theorem OkF.mono {P w K mg base j} (O : OkF P w K mg base CX j x ps dvs sp) (h : j ≤ k) : OkF P w K mg base CX k x ps dvs sp :=
  let ⟨fd, ds, F, a, b, c, d⟩ := O; ⟨fd, ds, F.mono h, a, b, c, d⟩
theorem OkM.mono {P w K mg base j} (O : OkM P w K mg base CX j c m ps dvs sp) (h : j ≤ k) : OkM P w K mg base CX k c m ps dvs sp :=
  let ⟨fd, ds, F, a, b, c, d⟩ := O; ⟨fd, ds, F.mono h, a, b, c, d⟩
/-- the callee runs, somewhere below this body -/
theorem run_fnA {A' : Around} (hA : A'.frames = X.A.frames) {pins : List (Addr × Obj)} {σ : L2.St} {H : Hp} {s : Shared} {Q : VK} {us : List Value} {vs : List V} (F : FnOk X.prog X.w X.K X.mg X.base CX k f fd ps sp) (hr : Room k A') (hb : Binds X.K fd ps ds) (hd : Vals dvs ds) (hx : PassesAt CX X σ E)
    (I : Inv X pins σ H s) (r : Vals vs us) (h : sp (vs ++ dvs) H Q E) : wpAny (model X.prog X.w) A' (call (.ref f) us) (EP X pins σ Q) X.xe s := by
  have r2 : Vals (vs ++ dvs) (us ++ ds) := r.append hd
  have hl : (us ++ ds).length = ps.length := r2.length.symm.trans (F.len _ _ _ _ h)
  have e0 := I.env0
  have e1 : Env0 X.prog X.w X.K X.mg X.base A' X.stack s H := ⟨hA.trans e0.frames, e0.mod, e0.bs, e0.bsz, e0.funs, e0.frf, e0.hok, e0.bare⟩
  have run := F.run A' X.stack s H ⟨us, []⟩ (us ++ ds) (vs ++ dvs) Q E hr e1 (hb s us I.kIn hl) r2 h
  refine wpAny_call (codeAny_mono run fun r s' hq => ?_)
  match r, hq with
  | .error e, hq => exact hx pins H s e s' I hq
  | .ok (.ret u), hq => exact I.after hq
theorem run_makeA {pins : List (Addr × Obj)} {σ : L2.St} {H : Hp} {s : Shared} {Q : VK} {us : List Value} {vs : List V} (M : Mk X.K C f) (F : FnOk X.prog X.w X.K X.mg X.base CX k f fd ps sp) (hr : Room (k + 1) X.A) (hb : Binds X.K fd ps ds) (hd : Vals dvs ds)
    (hx : PassesAt CX X σ E) (I : Inv X pins σ H s) (r : Vals vs us)
    (h : ∀ x dx, H x = none → H dx = none → dx ≠ x → sp (.ref x :: (vs ++ dvs)) (upd (upd H dx (.own x)) x (.ins C dx [])) (fun v H2 => v = .non ∧ Q (.ref x) H2) E) :
    wpAny (model X.prog X.w) X.A (call (.ref C) us) (EP X pins σ Q) X.xe s := by
  have fresh : ∀ b, s.heap.objs.size ≤ b → H b = none := fun b hb => I.hok.fresh hb
  have hq := h (s.heap.objs.size + 1) s.heap.objs.size (fresh _ (Nat.le_succ _)) (fresh _ (Nat.le_refl _)) (Nat.ne_of_lt (Nat.lt_succ_self _))
  have I2 := Inv.made (C := C) I
  have r2 : Vals (V.ref (s.heap.objs.size + 1) :: (vs ++ dvs)) (Value.ref (s.heap.objs.size + 1) :: (us ++ ds)) := .cons rfl (r.append hd)
  have hl : (Value.ref (s.heap.objs.size + 1) :: us ++ ds).length = ps.length := r2.length.symm.trans (F.len _ _ _ _ hq)
  have run := F.run _ X.stack _ _ ⟨Value.ref (s.heap.objs.size + 1) :: us, []⟩ (Value.ref (s.heap.objs.size + 1) :: (us ++ ds)) _ _ E (hr.make C us []) (I2.env0.make C us []) (hb _ (Value.ref (s.heap.objs.size + 1) :: us) I2.kIn hl) r2 hq
  refine wpAny_call (make_map (f := f) I.kIn M.makes M.init (beq_iff_eq.mp M.fn) (codeAny_mono run fun r s' hq' => ?_))
  match r, hq' with
  | .error e, hq' => exact hx pins _ _ e s' I2 hq'
  | .ok (.ret u), hq' =>
    obtain ⟨v, H', I3, rv, ev, q3⟩ := I2.after hq'
    subst ev
    exact ⟨rv, ⟨V.ref (s.heap.objs.size + 1), H', I3, rfl, q3⟩⟩
theorem pe_callF (O : OkF X.prog X.w X.K X.mg X.base CX k x ps dvs sp) (hr : Room k X.A) (hx : ∀ σ, PassesAt CX X σ (WE W σ)) (ha : PA X (e :: es) t) (hg : Gl X x := by rfl)
    (hdb : (x == ("__debug__" : Str)) = false := by decide) (he : starEach (e :: es) X.env = (false, eval e X.env) :: starEach es X.env := by rfl) (hpl : (backTo pos (starEach es X.env)).any (·.1) = false := by rfl) :
    PE X (.Call (.Name x p) (e :: es) [] pos) (tCallG sp dvs W t) := by
  obtain ⟨fd, ds, F, hm, hk, hb, hd⟩ := O
  refine ⟨fun pins s σ H Q I h => wpAny_Call_Name_kw (ld_glob I hg hm ?_ hdb)⟩
  have ev := thn (ha.run pos pins s σ H _ I h) fun us s1 ⟨vs, H1, I1, r, q⟩ => (⟨I1.kIn, run_fnA rfl F hr hb hd (hx σ) I1 r q⟩ : _ ∧ _)
  exact PySem.W.callWith_K (h₀ := X.base) I.ok.mod.kin hk ev he hpl
theorem pe_callF0 (O : OkF X.prog X.w X.K X.mg X.base CX k x ps dvs sp) (hr : Room k X.A) (hx : ∀ σ, PassesAt CX X σ (WE W σ)) (hg : Gl X x := by rfl)
    (hdb : (x == ("__debug__" : Str)) = false := by decide) : PE X (.Call (.Name x p) [] [] pos) (tCallG sp dvs W tNil) := by
  obtain ⟨fd, ds, F, hm, hk, hb, hd⟩ := O
  refine ⟨fun pins s σ H Q I h => wpAny_Call_Name_kw (ld_glob I hg hm ?_ hdb)⟩
  exact PySem.W.callWith_K0 I.kIn hk (run_fnA rfl (us := []) F hr hb hd (hx σ) I .nil h)
theorem pe_methF {pl : Sem Bool} (O : OkM X.prog X.w X.K X.mg X.base CX k c m ps dvs sp) (hr : Room k X.A) (hx : ∀ σ, PassesAt CX X σ (WE W σ)) (he : PE X o ta) (ha : PA X (e :: es) t)
    (hst : starEach (e :: es) X.env = (false, eval e X.env) :: starEach es X.env := by rfl) (hpl : (backTo pos (starEach es X.env)).any (·.1) = false := by rfl)
    (ht : eval (.Call (.Attribute o m apos) (e :: es) [] pos) X.env = (do
      let ov ← eval o X.env
      standAt apos.atName
      let (f, first) ← holding [ov] (getMethod ov m pl)
      callWith pos f first (backTo pos (starEach (e :: es) X.env)) (backToKw pos (keywordEach [] X.env))) := by rfl) :
    PE X (.Call (.Attribute o m apos) (e :: es) [] pos) (tMethG (He.ga X.K c) m sp dvs W ta t) := by
  obtain ⟨fd, ds, F, hc, hm, hb, hd⟩ := O
  refine ⟨fun pins s σ H Q I h => PySem.W.methodCall_KW (pl := pl) (thn (he.run pins s σ H _ I h) fun u s1 hu => ?_) ht⟩
  obtain ⟨x, H1, I1, rx, a, dx, fs, ex, ea, l, q⟩ := hu
  subst ex
  cases rx
  refine getmeth_ok I1 ea hc hm l ?_
  have ev := thn (ha.run pos pins s1 σ H1 _ I1 q) fun us s2 ⟨vs, H2, I2, r, q2⟩ => (⟨I2.kIn, run_fnA rfl (us := .ref a :: us) (vs := .ref a :: vs) F hr hb hd (hx σ) I2 (.cons rfl r) q2⟩ : _ ∧ _)
  exact PySem.W.callWith_K (first := [.ref a]) (h₀ := X.base) I.ok.mod.kin hm.kp ev hst hpl
theorem pe_methF0 {pl : Sem Bool} (O : OkM X.prog X.w X.K X.mg X.base CX k c m ps dvs sp) (hr : Room k X.A) (hx : ∀ σ, PassesAt CX X σ (WE W σ)) (he : PE X o ta)
    (ht : eval (.Call (.Attribute o m apos) [] [] pos) X.env = (do
      let ov ← eval o X.env
      standAt apos.atName
      let (f, first) ← holding [ov] (getMethod ov m pl)
      callWith pos f first (backTo pos (starEach [] X.env)) (backToKw pos (keywordEach [] X.env))) := by rfl) :
    PE X (.Call (.Attribute o m apos) [] [] pos) (tMethG (He.ga X.K c) m sp dvs W ta tNil) := by
  obtain ⟨fd, ds, F, hc, hm, hb, hd⟩ := O
  refine ⟨fun pins s σ H Q I h => PySem.W.methodCall_KW (pl := pl) (thn (he.run pins s σ H _ I h) fun u s1 hu => ?_) ht⟩
  obtain ⟨x, H1, I1, rx, a, dx, fs, ex, ea, l, q⟩ := hu
  subst ex
  cases rx
  refine getmeth_ok I1 ea hc hm l ?_
  exact PySem.W.callWith_K0 (first := [.ref a]) I1.kIn hm.kp (run_fnA rfl (us := [.ref a]) (vs := [.ref a]) F hr hb hd (hx σ) I1 (.cons rfl .nil) q)
theorem pe_makeF (O : OkC X.prog X.w X.K X.mg X.base CX k c ps dvs sp) (hr : Room (k + 1) X.A) (hx : ∀ σ, PassesAt CX X σ (WE W σ)) (ha : PA X (e :: es) t) (hg : Gl X c := by rfl)
    (hdb : (c == ("__debug__" : Str)) = false := by decide) (he : starEach (e :: es) X.env = (false, eval e X.env) :: starEach es X.env := by rfl) (hpl : (backTo pos (starEach es X.env)).any (·.1) = false := by rfl) :
    PE X (.Call (.Name c p) (e :: es) [] pos) (tMakeG (He.ga X.K c) sp dvs W t) := by
  obtain ⟨fd, ds, F, hm, hk, hb, hd⟩ := O
  refine ⟨fun pins s σ H Q I h => wpAny_Call_Name_kw (ld_glob I hg hm ?_ hdb)⟩
  have ev := thn (ha.run pos pins s σ H _ I h) fun us s1 ⟨vs, H1, I1, r, q⟩ => (⟨I1.kIn, run_makeA hk F hr hb hd (hx σ) I1 r q⟩ : _ ∧ _)
  exact PySem.W.callWith_K (h₀ := X.base) I.ok.mod.kin hk.kp ev he hpl
theorem pe_makeF0 (O : OkC X.prog X.w X.K X.mg X.base CX k c ps dvs sp) (hr : Room (k + 1) X.A) (hx : ∀ σ, PassesAt CX X σ (WE W σ)) (hg : Gl X c := by rfl)
    (hdb : (c == ("__debug__" : Str)) = false := by decide) : PE X (.Call (.Name c p) [] [] pos) (tMakeG (He.ga X.K c) sp dvs W tNil) := by
  obtain ⟨fd, ds, F, hm, hk, hb, hd⟩ := O
  refine ⟨fun pins s σ H Q I h => wpAny_Call_Name_kw (ld_glob I hg hm ?_ hdb)⟩
  exact PySem.W.callWith_K0 I.kIn hk.kp (run_makeA (us := []) hk F hr hb hd (hx σ) I .nil h)
/-! an operator that wants the slots -/
def OpRS (X : Cx) (f : Value → Value → Sem Value) (r : L2.St → R2) : Prop :=
  ∀ (pins : List (Addr × Obj)) (s : Shared) (σ : L2.St) (H : Hp) (x y : V) (v u : Value) (Q : VK), Inv X pins σ H s → RelV x v → RelV y u → r σ x y H Q → wpAny (model X.prog X.w) X.A (f v u) (EP X pins σ Q) X.xe s
def UnRS (X : Cx) (f : Value → Sem Value) (r : L2.St → V → Hp → VK → Prop) : Prop :=
  ∀ (pins : List (Addr × Obj)) (s : Shared) (σ : L2.St) (H : Hp) (x : V) (v : Value) (Q : VK), Inv X pins σ H s → RelV x v → r σ x H Q → wpAny (model X.prog X.w) X.A (f v) (EP X pins σ Q) X.xe s
def CallRS (X : Cx) (f : Value) (r : L2.St → List V → Hp → VK → Prop) : Prop :=
  ∀ (pins : List (Addr × Obj)) (s : Shared) (σ : L2.St) (H : Hp) (xs : List V) (us : List Value) (Q : VK), Inv X pins σ H s → Vals xs us → r σ xs H Q → wpAny (model X.prog X.w) X.A (call f us) (EP X pins σ Q) X.xe s
def tOpS (r : L2.St → R2) (ta tb : TE) : TE := fun σ H Q => ta σ H fun x H1 => tb σ H1 fun y H2 => r σ x y H2 Q
def tUnS (r : L2.St → V → Hp → VK → Prop) (ta : TE) : TE := fun σ H Q => ta σ H fun x H1 => r σ x H1 Q
def tCBS (r : L2.St → List V → Hp → VK → Prop) (t : TA) : TE := fun σ H Q => t σ H fun vs H1 => r σ vs H1 Q
variable {a b : Expr} {tb : TE}
theorem pe_opS {op : Operator} {r : L2.St → R2} (ho : OpRS X (binaryOp op) r) (ha : PE X a ta) (hb : PE X b tb) : PE X (.BinOp a op b pos) (tOpS r ta tb) :=
  ⟨fun pins s σ H Q I h => wpAny_BinOp (binT ha hb I h fun v u s2 x y H2 I2 rx ry q => ho pins s2 σ H2 x y v u Q I2 rx ry q)⟩
theorem pe_cmpS {op : CmpOp} {r : L2.St → R2} (ho : OpRS X (compareOp op) r) (ha : PE X a ta) (hb : PE X b tb) (hm : behindInMarks op b = false) : PE X (.Compare a [op] [b] pos) (tOpS r ta tb) :=
  ⟨fun pins s σ H Q I h => wpAny_Compare1 (binT ha hb I h fun v u s2 x y H2 I2 rx ry q => ho pins s2 σ H2 x y v u Q I2 rx ry q) hm⟩
theorem pe_unS {op : UnaryOp} {r : L2.St → V → Hp → VK → Prop} (ho : UnRS X (unaryOp op) r) (ha : PE X a ta) : PE X (.UnaryOp op a pos) (tUnS r ta) :=
  ⟨fun pins s σ H Q I h => UnaryOp_ (thn (ha.run pins s σ H _ I h) fun v s1 ⟨x, H1, I1, r1, q1⟩ => ho pins s1 σ H1 x v Q I1 r1 q1)⟩
theorem pe_callBS {id : String} {r : L2.St → List V → Hp → VK → Prop} (hc : CallRS X (.builtin id) r) (hg : Gl X x) (hm : X.mg x = none) (hv : bootBuiltins x = some (.builtin id)) (ha : PA X (e :: es) t) (hn : x ≠ "__name__" := by decide) (hdb : (x == ("__debug__" : Str)) = false := by decide)
    (he : starEach (e :: es) X.env = (false, eval e X.env) :: starEach es X.env := by rfl) (hpl : (backTo pos (starEach es X.env)).any (·.1) = false := by rfl) : PE X (.Call (.Name x p) (e :: es) [] pos) (tCBS r t) := by
  refine ⟨fun pins s σ H Q I h => wpAny_Call_Name_kw (ld_blt I hg hm hv ?_ hn hdb)⟩
  have ev := thn (ha.run pos pins s σ H _ I h) fun us s1 ⟨vs, H1, I1, r1, q1⟩ => hc pins s1 σ H1 vs us Q I1 r1 q1
  exact PyProof.Rows.callWith_builtin1 ev he hpl
theorem pe_callTyS {T : String} {r : L2.St → List V → Hp → VK → Prop} (hc : CallRS X (.type T) r) (hg : Gl X x) (hm : X.mg x = none) (hv : bootBuiltins x = some (.type T)) (ha : PA X (e :: es) t) (hn : x ≠ "__name__" := by decide) (hdb : (x == ("__debug__" : Str)) = false := by decide)
    (he : starEach (e :: es) X.env = (false, eval e X.env) :: starEach es X.env := by rfl) (hpl : (backTo pos (starEach es X.env)).any (·.1) = false := by rfl) : PE X (.Call (.Name x p) (e :: es) [] pos) (tCBS r t) := by
  refine ⟨fun pins s σ H Q I h => wpAny_Call_Name_kw (ld_blt I hg hm hv ?_ hn hdb)⟩
  have ev := thn (ha.run pos pins s σ H _ I h) fun us s1 ⟨vs, H1, I1, r1, q1⟩ => hc pins s1 σ H1 vs us Q I1 r1 q1
  exact PyProof.Rows.callWith_type1 ev he hpl
end

/-! ## the end: a law, its script's bits told -/
theorem walk_ofEB {l : PySem.W.OpenLaw} {n k : Nat} {q : Program} {loose : List Str} {XP : (Str → Option Value) → Heap → Prop} {YP : World → Heap → Prop} {d : DefRec} {CX : CXT} {x : Str}
    (hn : l.most = some n) (hn2 : n ≤ sizeLine) (hdf : d.params.defaults = []) (hr : Room k callerA)
    (F : ∀ (w : World) (mg : Str → Option Value) (fa : Addr) (h : Heap), YP w h → h.Ns mainGlobals mg → mg d.name = some (.ref fa) →
      ∃ (K : PySem.W.Frag) (fd : FuncData) (sp : Sp), K.In h ∧ (∀ (s : Shared) (u : Value), BindsTo s fd ⟨[u], []⟩ [(x, u)]) ∧
        (∀ (H : Hp) (a : Addr) (ns : List Int), ns.length ≤ n → (∀ z ∈ ns, Builtin.Int.intBits z ≤ 1048576) → Only H → SqL K H a (ns.map V.int) → sp [.ref a] H (fun v _ => v = .bl true) fun _ _ _ => False) ∧
        ∀ base : Heap, K.In base → base.Ns mainGlobals mg → FnOk l.prog w K mg base CX k fa fd [x] sp)
    (hCX : ∀ (H : Hp) (s : Shared) (e : Value) (s' : Shared), CX [] H s (fun _ _ _ => False) e s' → False) :
    PySem.W.WalkO q loose XP YP l.row.toRowW d [] (fun f vs => PySem.call f vs) := by
  refine Att.attach_callB hn hdf fun w s₀ s₁ mg mb fa o pm cd doc a vs ns G Y ho hd hcd hmg hobj hints hlen hbits hg => ?_
  obtain ⟨K, fd, sp, KX, hb, hsp, hF⟩ := F w mg fa _ Y G.T.g hmg
  exact law_call KX G.T.g G.T.b G.T.builtins G.T.nolimit hg hobj hints (Nat.le_trans hlen hn2) hr hF hb (fun H hO hS => hsp H a ns hlen hbits hO hS) fun H e s' => hCX H s₁ e s'

/-! ## union rules -/
theorem OpRor {X : Cx} {f : Value → Value → Sem Value} {r r' : R2} (h : OpR X f r) (h' : OpR X f r') : OpR X f (fun x y H Q => r x y H Q ∨ r' x y H Q) :=
  fun pins s σ H x y v u Q I rx ry q => q.elim (fun q => h pins s σ H x y v u Q I rx ry q) fun q => h' pins s σ H x y v u Q I rx ry q
theorem CallRor {X : Cx} {f : Value} {r r' : List V → Hp → VK → Prop} (h : CallR X f r) (h' : CallR X f r') : CallR X f (fun xs H Q => r xs H Q ∨ r' xs H Q) :=
  fun pins s σ H xs us Q I rx q => q.elim (fun q => h pins s σ H xs us Q I rx q) fun q => h' pins s σ H xs us Q I rx q
/-- // by any divisor below 2 ^ 9000 in size, but 0 -/
def CDivG (_ j : Int) : Prop := j ≠ 0 ∧ j.natAbs < 2 ^ 9000
theorem op_fdivG {X : Cx} : OpR X (binaryOp .FloorDiv) (rI CDivG fun i j => .int (i.fdiv j)) := opI fun _ _ _ _ _ _ _ hc q =>
  floordiv_int hc.1 q (.inl (PyProof.noPylong_of_log2 (PySem.Flt.log2_lt_of (by decide) hc.2)))

/-! ## heaps: what a def keeps -/
def Imm : HO → Prop
  | .tup _ => True
  | .frz _ _ => True
  | _ => False
/-- all but what stands at ms is kept; what never changes is kept everywhere -/
structure Keep (ms : List Addr) (H H' : Hp) : Prop where
  at_ : ∀ b o, b ∉ ms → H b = some o → H' b = some o
  imm : ∀ b o, Imm o → H b = some o → H' b = some o
theorem Keep.refl {ms : List Addr} (H : Hp) : Keep ms H H := ⟨fun _ _ _ h => h, fun _ _ _ h => h⟩
theorem Keep.trans {ms : List Addr} {H H1 H2 : Hp} (a : Keep ms H H1) (b : Keep ms H1 H2) : Keep ms H H2 := ⟨fun c o n h => b.at_ c o n (a.at_ c o n h), fun c o n h => b.imm c o n (a.imm c o n h)⟩
theorem Keep.mono {ms ns : List Addr} {H H1 : Hp} (a : Keep ms H H1) (h : ∀ m ∈ ms, m ∈ ns) : Keep ns H H1 := ⟨fun c o n q => a.at_ c o (fun z => n (h c z)) q, a.imm⟩
theorem Keep.new {ms : List Addr} {H : Hp} {p : Addr} {o : HO} (h : H p = none) : Keep ms H (upd H p o) :=
  ⟨fun b u _ e => by rw [upd_ne (ne_of_none e h)]; exact e, fun b u _ e => by rw [upd_ne (ne_of_none e h)]; exact e⟩
theorem Keep.set {ms : List Addr} {H : Hp} {p : Addr} {o : HO} (hm : p ∈ ms) (h : ∀ u, H p = some u → ¬ Imm u) : Keep ms H (upd H p o) :=
  ⟨fun b u n e => by rw [upd_ne (show b ≠ p from fun z => n (by rw [z]; exact hm))]; exact e, fun b u i e => by
    by_cases hb : b = p
    · subst hb; exact absurd i (h u e)
    · rw [upd_ne hb]; exact e⟩
theorem Keep.set' {ms : List Addr} {H : Hp} {p : Addr} {o u : HO} (hm : p ∈ ms) (h : H p = some u) (n : ¬ Imm u) : Keep ms H (upd H p o) :=
  Keep.set hm fun v e => by rw [h] at e; cases e; exact n
/-- a change of what the start did not know -/
theorem Keep.mut {ms : List Addr} {H H1 : Hp} {p : Addr} {o : HO} (a : Keep ms H H1) (h : H p = none) : Keep ms H (upd H1 p o) :=
  ⟨fun b u n e => by rw [upd_ne (ne_of_none e h)]; exact a.at_ b u n e, fun b u i e => by rw [upd_ne (ne_of_none e h)]; exact a.imm b u i e⟩
theorem Keep.free {ms : List Addr} {H H' : Hp} (e : Keep ms H H') {l : Addr} (hl : l ∉ ms) (h : H' l = none) : H l = none := by
  cases q : H l with
  | none => rfl
  | some o => rw [e.at_ l o hl q] at h; cases h
theorem Keep.same {ms : List Addr} {H H' : Hp} (e : Keep [] H H') : Keep ms H H' := e.mono (by simp)
theorem Keep.seqT {K : PySem.W.Frag} {ms : List Addr} {H H' : Hp} {a : Addr} {xs : List V} (e : Keep ms H H') (h : SqT K H a xs) : SqT K H' a xs := by
  rcases h with (h | ⟨o, h⟩) | h
  · exact .inl (.inl (e.imm _ _ trivial h))
  · exact .inl (.inr ⟨o, e.imm _ _ trivial h⟩)
  · exact .inr h
theorem Keep.seqL {K : PySem.W.Frag} {ms : List Addr} {H H' : Hp} {a : Addr} {xs : List V} (e : Keep ms H H') (ha : a ∉ ms) (h : SqL K H a xs) : SqL K H' a xs := by
  rcases h with (h | ⟨o, h⟩) | h
  · exact .inl (.inl (e.at_ _ _ ha h))
  · exact .inl (.inr ⟨o, e.imm _ _ trivial h⟩)
  · exact .inr h
theorem Keep.fresh1 {ms : List Addr} {H H1 H2 : Hp} {x : Addr} (a : Keep ms H H1) (hx : H x = none) (b : Keep [x] H1 H2) : Keep ms H H2 :=
  ⟨fun c o n e => b.at_ c o (by simpa using ne_of_none e hx) (a.at_ c o n e), fun c o i e => b.imm c o i (a.imm c o i e)⟩
end PB
namespace PB
open PySem PySem.Spec PyProof.Rows L2
section
variable {σ : L2.St} {H : Hp} {Q : VK} {QT : Bool → Hp → Prop} {QA : List V → Hp → Prop} {ta tb te tc : TE} {tt tu : TT} {tA : TA} {v x y : V} {i j : Nat} {D : Ends} {t1 t2 : TS} {K : PySem.W.Frag} {a b C dx : Addr} {fs : List (Str × V)} {f : Str} {sp : Sp} {dvs : List V} {E : XK} {W : WX} {g : TG} {gs : TGs} {wi : TI}
/-! the shapes of readings by names, so that steps unify at once -/
def NewT (xs : List V) (H : Hp) (Q : VK) : Prop := xs.length ≤ sizeLine ∧ ∀ p, H p = none → Q (.ref p) (upd H p (.tup xs))
def NewL (xs : List V) (H : Hp) (Q : VK) : Prop := xs.length ≤ sizeLine ∧ ∀ p, H p = none → Q (.ref p) (upd H p (.lst xs))
def GetF (K : PySem.W.Frag) (f : Str) (x : V) (H : Hp) (Q : VK) : Prop := ∃ a C dx fs v, x = .ref a ∧ H a = some (.ins C dx fs) ∧ Cls K C ∧ NoAttr K C f ∧ fs.lookup f = some v ∧ Q v H
def PutF (K : PySem.W.Frag) (f : Str) (x y : V) (H : Hp) (G : Hp → Prop) : Prop := ∃ a C dx fs, x = .ref a ∧ H a = some (.ins C dx fs) ∧ Cls K C ∧ NoAttr K C f ∧ fs.length < 1000 ∧ G (upd H a (.ins C dx (putF f y fs)))
def GetM (C : Addr) (m : Str) (x : V) (H : Hp) (G : Prop) : Prop := ∃ a dx fs, x = .ref a ∧ H a = some (.ins C dx fs) ∧ fs.lookup m = none ∧ G
def NewI (C : Addr) (sp : Sp) (vs : List V) (E : XK) (H : Hp) (Q : VK) : Prop := ∀ x dx, H x = none → H dx = none → dx ≠ x → sp (.ref x :: vs) (upd (upd H dx (.own x)) x (.ins C dx [])) (fun v H2 => v = .non ∧ Q (.ref x) H2) E
/-! ### readings, a step each -/
theorem i_seq (h : t1 { D with nx := t2 D } σ H) : tSeq t1 t2 D σ H := h
theorem i_cut (Mid : L2.St → Hp → Prop) (h : t1 { D with nx := Mid } σ H) (h2 : ∀ σ' H', Mid σ' H' → t2 D σ' H') : C8.tCut t1 t2 D σ H := ⟨Mid, h, h2⟩
theorem i_next (h : D.nx σ H) : tNext D σ H := h
theorem i_brk (h : D.bk σ H) : tBreak D σ H := h
theorem i_cont (h : D.ct σ H) : tCont D σ H := h
theorem i_asg (h : te σ H fun x H1 => g x σ H1 D.nx) : tAsg te g D σ H := h
theorem i_drop (h : te σ H fun _ H1 => D.nx σ H1) : tDrop te D σ H := h
theorem i_ret (h : te σ H D.rt) : tRet te D σ H := h
theorem i_retN (h : D.rt .non H) : tRetN D σ H := h
theorem i_ifS (h : tt σ H fun b H1 => if b = true then t1 D σ H1 else t2 D σ H1) : tIfS tt t1 t2 D σ H := h
theorem i_gname {G : L2.St → Hp → Prop} (h : G (σ.set i (some v)) H) : gName i v σ H G := h
theorem i_gtup {G : L2.St → Hp → Prop} {n : Nat} {xs : List V} (hs : SqT K H a xs) (hn : xs.length = n) (h : gs xs σ H G) : gTup K n gs (.ref a) σ H G := ⟨a, xs, rfl, hs, hn, h⟩
theorem i_gcons {G : L2.St → Hp → Prop} {r : List V} (h : g v σ H fun σ' H' => gs r σ' H' G) : gCons g gs (v :: r) σ H G := ⟨v, r, rfl, h⟩
theorem i_gnil {G : L2.St → Hp → Prop} (h : G σ H) : gNil [] σ H G := ⟨rfl, h⟩
theorem i_gsub {to ti : TE} {t : TSet} {G : L2.St → Hp → Prop} (h : to σ H fun o H1 => ti σ H1 fun i H2 => t o i v H2 fun H3 => G σ H3) : gSub to ti t v σ H G := h
theorem i_par {tA : TA} (h : tA σ H fun vs H1 => ∃ v w, vs = [v, w] ∧ D.nx ((σ.set i (some v)).set j (some w)) H1) : tPar i j tA D σ H := h
theorem i_par2 {v w : V} {G : V → V → Prop} (h : G v w) : ∃ v' w', [v, w] = [v', w'] ∧ G v' w' := ⟨v, w, rfl, h⟩
theorem i_aug {ti : TIp} (hx : σ[i]? = some (some x)) (h : te σ H fun y H1 => ti x y H1 fun z H2 => D.nx (σ.set i (some z)) H2) : tAug i te ti D σ H := ⟨x, hx, h⟩
theorem i_ipI {F : Int → Int → Int} {m n : Int} (h : Q (.int (F m n)) H) : ipI F (.int m) (.int n) H Q := ⟨m, n, rfl, rfl, h⟩
theorem i_var (hx : σ[i]? = some (some v)) (h : Q v H) : tVar i σ H Q := ⟨v, hx, h⟩
theorem i_c (h : Q v H) : tC v σ H Q := h
theorem i_op {r : R2} (h : ta σ H fun x H1 => tb σ H1 fun y H2 => r x y H2 Q) : tOp r ta tb σ H Q := h
theorem i_un {r : V → Hp → VK → Prop} (h : ta σ H fun x H1 => r x H1 Q) : tUn r ta σ H Q := h
theorem i_rU {G : Int → V} {m : Int} (h : Q (G m) H) : rU G (.int m) H Q := ⟨m, rfl, h⟩
theorem i_rI0 {G : Int → Int → V} {m n : Int} (h : Q (G m n) H) : rI0 G (.int m) (.int n) H Q := ⟨m, n, rfl, rfl, h⟩
theorem i_rI {Cn : Int → Int → Prop} {G : Int → Int → V} {m n : Int} (hc : Cn m n) (h : Q (G m n) H) : rI Cn G (.int m) (.int n) H Q := ⟨m, n, rfl, rfl, hc, h⟩
theorem i_rEq (hs : scal x y = true) (h : Q (.bl (decide (x = y))) H) : rEq x y H Q := ⟨hs, h⟩
theorem i_rNe (hs : scal x y = true) (h : Q (.bl (!decide (x = y))) H) : rNe x y H Q := ⟨hs, h⟩
theorem i_test (h : te σ H fun x H' => ∃ k, x = .bl k ∧ QT k H') : tTest te σ H QT := h
theorem i_B (h : te σ H fun x H' => ∃ k, x = .bl k ∧ QT k H') : tB te σ H QT := h
theorem i_bl {k : Bool} {G : Bool → Prop} (h : G k) : ∃ k', V.bl k = .bl k' ∧ G k' := ⟨k, rfl, h⟩
theorem i_not (h : tt σ H fun c H1 => QT (!c) H1) : tNot tt σ H QT := h
theorem i_and (h : tt σ H fun c H1 => if c = true then tu σ H1 QT else QT false H1) : tAnd tt tu σ H QT := h
theorem i_or (h : tt σ H fun c H1 => if c = true then QT true H1 else tu σ H1 QT) : tOr tt tu σ H QT := h
theorem i_if (h : tt σ H fun c H1 => if c = true then ta σ H1 Q else tb σ H1 Q) : tIf tt ta tb σ H Q := h
theorem i_notV (h : te σ H fun x H1 => ∃ c, x = .bl c ∧ Q (.bl (!c)) H1) : tNotV te σ H Q := h
theorem i_andV (h : ta σ H fun x H1 => ∃ c, x = .bl c ∧ if c = true then tb σ H1 Q else Q (.bl false) H1) : tAndV ta tb σ H Q := h
theorem i_orV (h : ta σ H fun x H1 => ∃ c, x = .bl c ∧ if c = true then Q (.bl true) H1 else tb σ H1 Q) : tOrV ta tb σ H Q := h
theorem i_nil (h : QA [] H) : tNil σ H QA := h
theorem i_cons (h : ta σ H fun x H1 => tA σ H1 fun xs H2 => QA (x :: xs) H2) : tCons ta tA σ H QA := h
theorem i_tup (h : tA σ H fun xs H1 => NewT xs H1 Q) : tTup tA σ H Q := h
theorem i_lst (h : tA σ H fun xs H1 => NewL xs H1 Q) : tLst tA σ H Q := h
theorem i_call (h : tA σ H fun vs H1 => sp (vs ++ dvs) H1 Q (WE W σ)) : tCallG sp dvs W tA σ H Q := h
theorem i_opS {r : L2.St → R2} (h : ta σ H fun x H1 => tb σ H1 fun y H2 => r σ x y H2 Q) : tOpS r ta tb σ H Q := h
theorem i_unS {r : L2.St → V → Hp → VK → Prop} (h : ta σ H fun x H1 => r σ x H1 Q) : tUnS r ta σ H Q := h
theorem i_cbS {r : L2.St → List V → Hp → VK → Prop} (h : tA σ H fun vs H1 => r σ vs H1 Q) : tCBS r tA σ H Q := h
theorem i_cb {r : List V → Hp → VK → Prop} (h : tA σ H fun vs H1 => r vs H1 Q) : tCB r tA σ H Q := h
theorem i_fld (h : ta σ H fun x H1 => GetF K f x H1 Q) : tFld K ta f σ H Q := h
theorem i_fldR (ho : H a = some (.ins C dx fs)) (hc : Cls K C) (hn : NoAttr K C f) (hl : fs.lookup f = some v) (h : Q v H) : GetF K f (.ref a) H Q := ⟨a, C, dx, fs, v, rfl, ho, hc, hn, hl, h⟩
theorem i_meth {m : Str} (h : ta σ H fun x H1 => GetM C m x H1 (tA σ H1 fun vs H2 => sp (x :: (vs ++ dvs)) H2 Q (WE W σ))) : tMethG C m sp dvs W ta tA σ H Q := h
theorem i_methR {m : Str} {G : Prop} (ho : H a = some (.ins C dx fs)) (hl : fs.lookup m = none) (h : G) : GetM C m (.ref a) H G := ⟨a, dx, fs, rfl, ho, hl, h⟩
theorem i_make (h : tA σ H fun vs H1 => NewI C sp (vs ++ dvs) (WE W σ) H1 Q) : tMakeG C sp dvs W tA σ H Q := h
theorem i_sfld {tv : TE} (h : tv σ H fun y H1 => ta σ H1 fun x H2 => PutF K f x y H2 (fun H3 => D.nx σ H3)) : sFld K ta tv f D σ H := h
theorem i_sfldR {G : Hp → Prop} (ho : H a = some (.ins C dx fs)) (hc : Cls K C) (hn : NoAttr K C f) (hl : fs.length < 1000) (h : ∀ H', Keep [a] H H' → H' a = some (.ins C dx (putF f y fs)) → G H') : PutF K f (.ref a) y H G := ⟨a, C, dx, fs, rfl, ho, hc, hn, hl, h _ (Keep.set' (by simp) ho (fun z => z)) upd_same⟩
/-! sequences -/
theorem i_ixL {xs : List V} {n : Int} (hs : SqL K H a xs) (ha : atI xs n = some v) (h : Q v H) : rIxL K (.ref a) (.int n) H Q := ⟨a, xs, n, v, rfl, rfl, hs, ha, h⟩
theorem i_ixT {xs : List V} {n : Int} (hs : SqT K H a xs) (ha : atI xs n = some v) (h : Q v H) : rIxT K (.ref a) (.int n) H Q := ⟨a, xs, n, v, rfl, rfl, hs, ha, h⟩
theorem i_setL {xs : List V} {n : Int} {G : Hp → Prop} (ho : H a = some (.lst xs)) (hi : ixN xs.length n = some j) (h : ∀ H', Keep [a] H H' → H' a = some (.lst (xs.set j v)) → G H') : rSetL (.ref a) (.int n) v H G :=
  ⟨a, xs, n, j, rfl, rfl, ho, hi, h _ (Keep.set' (by simp) ho (fun z => z)) upd_same⟩
theorem i_bm {T : String} {r : V → List V → Hp → VK → Prop} (h : ta σ H fun x H1 => tyV K T x H1 ∧ tA σ H1 fun xs H2 => r x xs H2 Q) : tBM K T r ta tA σ H Q := h
theorem i_bm0 {T : String} {r : V → List V → Hp → VK → Prop} (h : ta σ H fun x H1 => tyV K T x H1 ∧ r x [] H1 Q) : tBM0 K T r ta σ H Q := h
theorem i_tyL {xs : List V} {G : Prop} (hs : SqL K H a xs) (h : G) : tyV K "list" (.ref a) H ∧ G := ⟨.inl ⟨rfl, xs, hs⟩, h⟩
theorem i_app {l : Addr} {xs : List V} (ho : H l = some (.lst xs)) (hz : xs.length < sizeLine) (h : ∀ H', Keep [l] H H' → H' l = some (.lst (xs ++ [y])) → Q .non H') : rAppend (.ref l) [y] H Q :=
  ⟨l, xs, y, rfl, rfl, ho, hz, h _ (Keep.set' (by simp) ho (fun z => z)) upd_same⟩
theorem i_new {p : Addr} {o : HO} {G : Hp → Prop} (hp : H p = none) (h : ∀ H', Keep [] H H' → H' p = some o → G H') : G (upd H p o) := h _ (Keep.new hp) upd_same
theorem i_set {p : Addr} {o u : HO} {G : Hp → Prop} (hp : H p = some u) (hu : ¬ Imm u) (h : ∀ H', Keep [p] H H' → H' p = some o → G H') : G (upd H p o) := h _ (Keep.set' (by simp) hp hu) upd_same
theorem i_tupR {xs : List V} (hz : xs.length ≤ sizeLine) (h : ∀ p H', H p = none → Keep [] H H' → H' p = some (.tup xs) → Q (.ref p) H') : NewT xs H Q := ⟨hz, fun p hp => h p _ hp (Keep.new hp) upd_same⟩
theorem i_lstR {xs : List V} (hz : xs.length ≤ sizeLine) (h : ∀ p H', H p = none → Keep [] H H' → H' p = some (.lst xs) → Q (.ref p) H') : NewL xs H Q := ⟨hz, fun p hp => h p _ hp (Keep.new hp) upd_same⟩
theorem i_pop0 {l : Addr} {xs : List V} (ho : H l = some (.lst (y :: xs))) (h : ∀ H', Keep [l] H H' → H' l = some (.lst xs) → Q y H') : rPopAt (.ref l) [.int 0] H Q :=
  ⟨l, _, 0, 0, y, rfl, rfl, ho, by decide, by decide, seqIndex_of (by decide) (by rw [List.length_cons]; omega), rfl, h _ (Keep.set' (by simp) ho (fun z => z)) upd_same⟩
theorem i_int {n : Int} {G : Int → Prop} {B : Prop} (h : G n) : (∃ i, [V.int n] = [.int i] ∧ G i) ∨ B := .inl ⟨n, rfl, h⟩
theorem i_intB {k : Bool} {G : Bool → Prop} {B : Prop} (h : G k) : B ∨ ∃ k', [V.bl k] = [.bl k'] ∧ G k' := .inr ⟨k, rfl, h⟩
theorem i_abs {n : Int} {G : Int → Prop} (h : G n) : ∃ i, [V.int n] = [.int i] ∧ G i := ⟨n, rfl, h⟩
theorem abs_e (n : Int) : (if n < 0 then -n else n) = (n.natAbs : Int) := by omega
theorem sz_le {n : Nat} (h : n ≤ 1000000) : n ≤ sizeLine := Nat.le_trans h (by decide)
theorem sz_lt {n : Nat} (h : n < 1000000) : n < sizeLine := Nat.lt_of_lt_of_le h (by decide)
theorem hr64 {k : Nat} {A : Around} (hr : Room k A) : A.units + 64 < cLine := by have := hr.un; omega
theorem hr65 {k : Nat} {A : Around} (hr : Room k A) : A.units + 65 < cLine := by have := hr.un; omega
/-! branches -/
theorem b_eqI {A B : Prop} {m n : Int} (h1 : m = n → A) (h2 : m ≠ n → B) : if decide (V.int m = V.int n) = true then A else B := by
  by_cases h : m = n
  · rw [if_pos (by simp [h])]; exact h1 h
  · rw [if_neg (by simp [h])]; exact h2 h
theorem b_neI {A B : Prop} {m n : Int} (h1 : m ≠ n → A) (h2 : m = n → B) : if (!decide (V.int m = V.int n)) = true then A else B := by
  by_cases h : m = n
  · rw [if_neg (by simp [h])]; exact h2 h
  · rw [if_pos (by simp [h])]; exact h1 h
theorem b_dec {A B c : Prop} [Decidable c] (h1 : c → A) (h2 : ¬ c → B) : if decide c = true then A else B := by
  by_cases h : c
  · rw [if_pos (by simp [h])]; exact h1 h
  · rw [if_neg (by simp [h])]; exact h2 h
theorem b_ndec {A B c : Prop} [Decidable c] (h1 : ¬ c → A) (h2 : c → B) : if (!decide c) = true then A else B := by
  by_cases h : c
  · rw [if_neg (by simp [h])]; exact h2 h
  · rw [if_pos (by simp [h])]; exact h1 h
theorem b_bool {A B : Prop} {c : Bool} (h1 : c = true → A) (h2 : c = false → B) : if c = true then A else B := by
  cases c with
  | true => rw [if_pos rfl]; exact h1 rfl
  | false => rw [if_neg (by simp)]; exact h2 rfl
theorem b_nbool {A B : Prop} {c : Bool} (h1 : c = false → A) (h2 : c = true → B) : if (!c) = true then A else B := by
  cases c with
  | true => rw [if_neg (by simp)]; exact h2 rfl
  | false => rw [if_pos (by simp)]; exact h1 rfl
theorem b_t {A B : Prop} (h1 : A) : if true = true then A else B := by rw [if_pos rfl]; exact h1
theorem b_f {A B : Prop} (h1 : B) : if false = true then A else B := by rw [if_neg (by simp)]; exact h1
theorem b_nt {A B : Prop} (h1 : B) : if (!true) = true then A else B := by rw [if_neg (by simp)]; exact h1
theorem b_nf {A B : Prop} (h1 : A) : if (!false) = true then A else B := by rw [if_pos (by simp)]; exact h1
end
end PB
local macro_rules | `(tactic| walk_at "pb1") => `(tactic| with_reducible (first
  | apply PB.i_seq | apply PB.i_asg | (refine PB.i_var rfl ?_) | apply PB.i_c | apply PB.i_op | apply PB.i_cons | apply PB.i_nil | apply PB.i_call | apply PB.i_opS | apply PB.i_unS | apply PB.i_cbS | apply PB.i_ifS | apply PB.i_test | apply PB.i_bl | apply PB.i_gname
  | apply PB.i_rI0 | (refine PB.i_rEq rfl ?_) | (refine PB.i_rNe rfl ?_) | apply PB.i_ret | apply PB.i_par | apply PB.i_par2 | apply PB.i_cb | apply PB.i_next | apply PB.i_drop | apply PB.i_un | apply PB.i_rU | apply PB.i_B | apply PB.i_not | apply PB.i_and | apply PB.i_or | apply PB.i_if
  | apply PB.i_andV | apply PB.i_orV | apply PB.i_notV | apply PB.i_retN | apply PB.i_tup | apply PB.i_lst | apply PB.i_fld | apply PB.i_meth | apply PB.i_make | apply PB.i_sfld | apply PB.i_gcons | apply PB.i_gnil | apply PB.i_gsub | apply PB.i_ipI | (refine PB.i_aug rfl ?_) | apply PB.i_brk | apply PB.i_cont | apply PB.i_bm | apply PB.i_bm0 | apply PB.i_int | apply PB.i_abs | apply PB.i_intB | apply PB.b_t | apply PB.b_f | apply PB.b_nt | apply PB.b_nf))
local macro_rules | `(tactic| walk_at "pb") => `(tactic| first | (walk_at "pb1"; repeat (walk_at "pb1")) | (dsimp only; repeat (walk_at "pb1")) | skip)
local macro_rules | `(tactic| walk_at "sz") => `(tactic| first | exact Nat.zero_le _ | (refine PB.sz_le ?_; simp; done) | (refine PB.sz_le ?_; simp <;> omega) | (refine PB.sz_lt ?_; simp; done) | (refine PB.sz_lt ?_; simp <;> omega) | (refine PB.sz_le ?_; omega) | (refine PB.sz_lt ?_; omega))
local macro_rules | `(tactic| walk_at "rng") => `(tactic| (simp only [Int.mul_add, Int.add_mul, Int.mul_sub, Int.sub_mul, Int.neg_mul, Int.mul_neg, Int.mul_assoc, Int.mul_comm, Int.mul_left_comm, Int.mul_one, Int.one_mul, Int.mul_zero, Int.zero_mul] <;> omega))
namespace PB
open PySem PySem.Spec PyProof.Rows L2
/-! ## data -/
theorem dpAll_ints {K : PySem.W.Frag} {H : Hp} : ∀ ns : List Int, DpAll K H (ns.map V.int) (ns.map PyData.int)
  | [] => .nil
  | n :: ns => .cons (.int n) (dpAll_ints ns)
theorem canLay_ints : ∀ ns : List Int, PyData.canLayAll0 (ns.map PyData.int) = true
  | [] => by simp [PyData.canLayAll0]
  | n :: ns => by simp [PyData.canLayAll0, PyData.canLay0, canLay_ints ns]
theorem depth_ints : ∀ ns : List Int, PyData.depthAll (ns.map PyData.int) = 0
  | [] => by simp [PyData.depthAll]
  | n :: ns => by simp [PyData.depthAll, PyData.depth, depth_ints ns]
theorem shaped_ints (ns : List Int) : SeqAt.shaped (.list (ns.map PyData.int)) = true := by
  simp [SeqAt.shaped, PyData.canLay0, canLay_ints, PyData.depth, depth_ints]
theorem i_neNil {K : PySem.W.Frag} {H : Hp} {Q : VK} {l p : Addr} {ns : List Int} (hl : H l = some (.lst (ns.map V.int))) (hp : H p = some (.lst [])) (h : Q (.bl (!ns.isEmpty)) H) : rNeD K (.ref l) (.ref p) H Q := by
  refine ⟨.list (ns.map PyData.int), .list [], .lst (SqL.of hl) (dpAll_ints ns), .lst (SqL.of hp) .nil, shaped_ints ns, shaped_ints [], ?_⟩
  have e : PyData.eqv (.list (ns.map PyData.int)) (.list []) = ns.isEmpty := by
    cases ns <;> simp [PyData.eqv, PyData.eqvAll]
  rw [e]
  exact h
/-! ## the spring of draws -/
/-- the spring of draws at S, its cells at l: at most n draws so far -/
structure Stm (S l : Addr) (n : Nat) (H : Hp) : Prop where
  ne : S ≠ l
  ex : ∃ (rest : List Int) (c m : Int) (q : Nat), q ≤ n ∧ H S = some (.lst [.ref l, .int c, .int q, .int m]) ∧ H l = some (.lst (rest.map V.int)) ∧ rest.length ≤ 63 ∧ 0 ≤ m ∧ m < 2147483647
theorem Stm.mono {S l : Addr} {n k : Nat} {H : Hp} (h : Stm S l n H) (hk : n ≤ k) : Stm S l k H :=
  ⟨h.ne, let ⟨r, c, m, q, a, b⟩ := h.ex; ⟨r, c, m, q, Nat.le_trans a hk, b⟩⟩
theorem Stm.keep {S l : Addr} {n : Nat} {ms : List Addr} {H H' : Hp} (h : Stm S l n H) (k : Keep ms H H') (h1 : S ∉ ms) (h2 : l ∉ ms) : Stm S l n H' :=
  ⟨h.ne, let ⟨r, c, m, q, a, b, e, f⟩ := h.ex; ⟨r, c, m, q, a, k.at_ _ _ h1 b, k.at_ _ _ h2 e, f⟩⟩
theorem Stm.fresh {S l : Addr} {n : Nat} {H : Hp} {p : Addr} (h : Stm S l n H) (hp : H p = none) : p ∉ [S, l] := by
  obtain ⟨_, _, _, _, _, a, b, _⟩ := h.ex
  have h1 := ne_of_none a hp
  have h2 := ne_of_none b hp
  simpa using ⟨h1.symm, h2.symm⟩
/-- what stands at the spring's places is a list -/
theorem Stm.off {S l : Addr} {n : Nat} {H : Hp} {p : Addr} {o : HO} (h : Stm S l n H) (hp : H p = some o) (ho : ∀ xs, o ≠ .lst xs) : p ∉ [S, l] := by
  obtain ⟨_, _, _, _, _, a, b, _⟩ := h.ex
  have h1 := ne_of hp a (ho _)
  have h2 := ne_of hp b (ho _)
  simpa using ⟨h1, h2⟩
/-- _law_draw -/
def spDraw : Sp := fun vs H Q _ => ∃ (S l : Addr) (n : Nat) (many : Int), vs = [.ref S, .int many] ∧ 0 < many ∧ many.natAbs < 2 ^ 9000 ∧ n < 10000000 ∧ Stm S l n H ∧
  ∀ H' r, Keep [S, l] H H' → Stm S l (n + 1) H' → 0 ≤ r → r < many → Q (.int r) H'
theorem p64 : (2 : Nat) ^ 64 = 18446744073709551616 := by decide
theorem mulW_small {i j : Int} (hi : i.natAbs < 2 ^ 64) (hj : j.natAbs < 2 ^ 64) : CMulW i j := wide_mul hi hj (by decide) (by decide) (by decide)
end PB
namespace PB
open PySem PySem.W PyProof.Rows Builtin
/-! ## operators of own classes -/
section
variable {prog : Program} {w : World} {A : Around} {E : Value → Shared → Prop} {s : Shared} {K : Frag} {x C L f : Addr} {h₀ : Heap} {m : Str → Option Value} {ox : Obj} {od : Option Obj}
theorem mro_of {cd : ClassData} (hm : cd.mro.head? == some (.ref C)) : ∃ rest, cd.mro = .ref C :: rest := by
  cases q : cd.mro with
  | nil => rw [q] at hm; cases hm
  | cons a r => rw [q] at hm; exact ⟨r, by rw [List.head?_cons] at hm; cases (beq_iff_eq.mp hm); rfl⟩
/-- what a look-up by name of an own class's method gives, for numberSlotInPython -/
def rvOk (rv : Option Value) : Bool := match rv with
  | none => true
  | some (.ref _) => true
  | _ => false
theorem slotPy {M : Model} {h : Heap} {nm : String} {rv : Option Value} (X : K.In h) (hs : findIn K (.ref C) (PySem.dunder nm) = some (some (.ref f))) (hr : findIn K (.ref C) (dunderR nm) = some rv) (hrv : rvOk rv = true) : Looks M h (numberSlotInPython (.ref C) nm) true := by
  intro A Q E s k q
  unfold numberSlotInPython
  refine wpAny_bind (looks_findIn X hs A _ E s k ?_)
  refine wpAny_bind (wpAny_pure ?_)
  refine wpAny_bind (looks_findIn X hr A _ E s k ?_)
  cases rv with
  | none =>
    refine wpAny_bind (wpAny_pure ?_)
    exact wpAny_pure q
  | some v =>
    cases v with
    | ref g =>
      refine wpAny_bind (wpAny_pure ?_)
      exact wpAny_pure q
    | _ => cases hrv
/-- own op builtin -/
theorem binop1_KI {T nm : String} {b : Value} {rv : Option Value} {tk : Option Value} {Q : Value → Shared → Prop} (F : Fr h₀ L s.heap m) (X₀ : K.In h₀) (I : InstAt s.heap x ox C od) (hb : Looks (model prog w) s.heap (typeOf b) (.type T)) (hc : selfFirst K C = true)
    (hfb : fillsNumberSlot (.type T) nm = pure true) (hsub : subIn K (.type T) (.ref C) = some false) (htk : typeLookup (.type T) (dunderR nm) = pure tk)
    (hs : findIn K (.ref C) (PySem.dunder nm) = some (some (.ref f))) (hr : findIn K (.ref C) (dunderR nm) = some rv) (hrv : rvOk rv = true) (hf : isFn K (.ref f) = true)
    (h : wpAny (model prog w) A (call (.ref f) [.ref x, b]) (W.CmpBack Q) E s) : wpAny (model prog w) A (binaryOp1 nm (.ref x) b) (fun r s' => ∃ v, r = some v ∧ Q v s') E s := by
  have X := X₀.keeps F.keep
  obtain ⟨cd, hcd, hm⟩ := any_some hc
  obtain ⟨rest, hm⟩ := mro_of hm
  unfold binaryOp1
  refine wpAny_bind (I.type.here (wpAny_bind (hb.here (wpAny_bind ((fills_K X hcd hm hs).here ?_)))))
  have hne : ((Value.ref C) == (Value.type T)) = false := by simp
  simp only [hne, Bool.false_eq_true, if_false]
  refine wpAny_bind (wpAny_of_eq hfb ?_)
  simp only [Bool.and_true, if_true, Bool.and_self]
  refine wpAny_bind ((looks_subIn X hsub).here ?_)
  simp only [Bool.false_eq_true, if_false, Bool.not_false, if_true]
  refine wpAny_bind ((slotPy X hs hr hrv).here ?_)
  simp only [if_true]
  refine wpAny_bind (wpAny_of_eq (show numberSlotInPython (.type T) nm = pure false from rfl) ?_)
  simp only [Bool.not_false, if_true]
  refine wpAny_bind (wpAny_of_eq htk ?_)
  refine wpAny_bind (m := tryMethod (.ref x) _ b) ?_
  unfold tryMethod
  refine wpAny_bind (special_fn X I hs (beq_iff_eq.mp hf) (wpAny_mono h (fun v s' hv => ?_) fun _ _ e => e))
  cases v <;> first | exact hv.elim | exact wpAny_pure (wpAny_pure ⟨_, rfl, hv⟩)
/-- builtin op own, the builtin declines -/
theorem binop1_IK {T nm id : String} {a : Value} {g : Addr} {Q : Value → Shared → Prop} (F : Fr h₀ L s.heap m) (X₀ : K.In h₀) (I : InstAt s.heap x ox C od) (ha : s.TypeIs a T) (hc : selfFirst K C = true)
    (hfa : fillsNumberSlot (.type T) nm = pure true) (sl : Slot T (PySem.dunder nm) id) (hsub : subIn K (.ref C) (.type T) = some false)
    (hs : findIn K (.ref C) (PySem.dunder nm) = some (some (.ref f))) (hr : findIn K (.ref C) (dunderR nm) = some (some (.ref g))) (hg : isFn K (.ref g) = true)
    (hd : wpAny (model prog w) A (call (.builtin id) [a, .ref x]) (fun v s' => v = .notImplemented ∧ s' = s) E s)
    (h : wpAny (model prog w) A (call (.ref g) [.ref x, a]) (W.CmpBack Q) E s) : wpAny (model prog w) A (binaryOp1 nm a (.ref x)) (fun r s' => ∃ v, r = some v ∧ Q v s') E s := by
  have X := X₀.keeps F.keep
  obtain ⟨cd, hcd, hm⟩ := any_some hc
  obtain ⟨rest, hm⟩ := mro_of hm
  unfold binaryOp1
  refine wpAny_bind (wpAny_typeOf ha (wpAny_bind (I.type.here (wpAny_bind (wpAny_of_eq hfa ?_)))))
  have hne : ((Value.type T) == (Value.ref C)) = false := by simp
  simp only [hne, Bool.false_eq_true, if_false]
  refine wpAny_bind ((fills_K X hcd hm hs).here ?_)
  simp only [Bool.and_true, if_true, Bool.and_self]
  refine wpAny_bind ((looks_subIn X hsub).here ?_)
  simp only [Bool.false_eq_true, if_false, Bool.not_false, if_true]
  refine wpAny_bind (wpAny_of_eq (show numberSlotInPython (.type T) nm = pure false from rfl) ?_)
  simp only [Bool.false_eq_true, if_false]
  refine wpAny_bind (wpAny_tryMethod_declines ha sl (wpAny_mono hd (fun v s' hv => ?_) fun _ _ e => e))
  obtain ⟨rfl, rfl⟩ := hv
  refine ⟨rfl, ?_⟩
  refine wpAny_bind (m := tryMethod (.ref x) _ a) ?_
  unfold tryMethod
  refine wpAny_bind (special_fn X I hr (beq_iff_eq.mp hg) (wpAny_mono h (fun v s' hv => ?_) fun _ _ e => e))
  cases v <;> first | exact hv.elim | exact wpAny_pure (wpAny_bind (wpAny_rule (wpAny_pure ⟨_, rfl, hv⟩)))
end
end PB
namespace PB
open PySem PySem.Spec PyProof.Rows L2
section
variable {X : Cx} {CX : CXT} {k : Nat} {f C : Addr} {fd : FuncData} {ps : List Str} {sp : Sp} {dvs : List V} {ds : List Value} {E : XK} {W : WX} {c mt : Str}
/-- a method by its class's and its own name: what callers have -/
theorem OkM.runA {A' : Around} (hA : A'.frames = X.A.frames) {pins : List (Addr × Obj)} {σ : L2.St} {H : Hp} {s : Shared} {Q : VK} {us : List Value} {vs : List V} (O : OkM X.prog X.w X.K X.mg X.base CX k c mt ps dvs sp) (hr : Room k A') (hx : PassesAt CX X σ E)
    (I : Inv X pins σ H s) (r : Vals vs us) (h : sp (vs ++ dvs) H Q E) : wpAny (model X.prog X.w) A' (call (.ref (He.ma X.K (He.ga X.K c) mt)) us) (EP X pins σ Q) X.xe s := by
  obtain ⟨fd, ds, F, hc, hm, hb, hd⟩ := O
  exact run_fnA hA F hr hb hd hx I r h
theorem OkM.meth (O : OkM X.prog X.w X.K X.mg X.base CX k c mt ps dvs sp) : Meth X.K (He.ga X.K c) mt (He.ma X.K (He.ga X.K c) mt) := let ⟨_, _, _, _, m, _⟩ := O; m
theorem inst_of {pins : List (Addr × Obj)} {σ : L2.St} {H : Hp} {s : Shared} {a C dx : Addr} {fs : List (Str × V)} (I : Inv X pins σ H s) (e : H a = some (.ins C dx fs)) : ∃ od, PySem.W.InstAt s.heap a (PySem.W.instObj C dx) C (some od) := by
  obtain ⟨mA, J, _⟩ := ins_get I.hok e
  obtain ⟨od, J, _⟩ := J.look
  exact ⟨od, J⟩
theorem cmpBack_of {Q : Value → Shared → Prop} {v : V} {u : Value} {s : Shared} (r : RelV v u) (q : Q u s) : PySem.W.CmpBack Q u s := by
  cases v with
  | non => cases (show u = Value.none from r); exact q
  | bl b => cases (show u = Value.bool b from r); exact q
  | int i => obtain ⟨t, rfl⟩ := (show ∃ t, u = Value.int i t from r); exact q
  | str i => obtain ⟨t, rfl⟩ := (show ∃ t, u = Value.str i t from r); exact q
  | byt i => obtain ⟨t, rfl⟩ := (show ∃ t, u = Value.bytes i t from r); exact q
  | flt i => obtain ⟨t, rfl⟩ := (show ∃ t, u = Value.float i t from r); exact q
  | ref a => cases (show u = Value.ref a from r); exact q
  | ty n => cases (show u = Value.type n from r); exact q
/-- facts of an own class that stands beside ints -/
structure OwnN (K : PySem.W.Frag) (C : Addr) : Prop where
  sf : PySem.W.selfFirst K C = true
  si : PySem.W.subIn K (.type "int") (.ref C) = some false
  is_ : PySem.W.subIn K (.ref C) (.type "int") = some false
def ownNB (x : Str) (K : PySem.W.Frag) : Bool := PySem.W.selfFirst K (He.ga K x) && (decide (PySem.W.subIn K (.type "int") (.ref (He.ga K x)) = some false) && decide (PySem.W.subIn K (.ref (He.ga K x)) (.type "int") = some false))
theorem ownN_of {x : Str} {K : PySem.W.Frag} (h : ownNB x K = true) : OwnN K (He.ga K x) := by
  obtain ⟨a, b⟩ := He.ba h
  obtain ⟨b, d⟩ := He.ba b
  exact ⟨a, of_decide_eq_true b, of_decide_eq_true d⟩
/-- what is found under a reflected name -/
def RvI (K : PySem.W.Frag) (C : Addr) (nm : Str) : Prop := ∃ rv, PySem.W.findIn K (.ref C) nm = some rv ∧ rvOk rv = true
def rvB (x nm : Str) (K : PySem.W.Frag) : Bool := match PySem.W.findIn K (.ref (He.ga K x)) nm with
  | some rv => rvOk rv
  | none => false
theorem rv_of {x nm : Str} {K : PySem.W.Frag} (h : rvB x nm K = true) : RvI K (He.ga K x) nm := by
  unfold rvB at h
  cases e : PySem.W.findIn K (.ref (He.ga K x)) nm with
  | none => rw [e] at h; cases h
  | some rv => rw [e] at h; exact ⟨rv, e, h⟩
theorem rv_meth {K : PySem.W.Frag} {C f : Addr} {nm : Str} (h : Meth K C nm f) : RvI K C nm := ⟨_, h.at_, rfl⟩
/-- own op y: y an instance of the same class or an int -/
def rOwn (C : Addr) (sp : Sp) (W : WX) : L2.St → R2 := fun σ x y H Q => ∃ a dx fs, x = .ref a ∧ H a = some (.ins C dx fs) ∧ ((∃ b dy gs, y = .ref b ∧ H b = some (.ins C dy gs)) ∨ ∃ j, y = .int j) ∧ sp [x, y] H Q (WE W σ)
def rROwn (C : Addr) (sp : Sp) (W : WX) : L2.St → R2 := fun σ x y H Q => ∃ i b dx fs, x = .int i ∧ y = .ref b ∧ H b = some (.ins C dx fs) ∧ sp [y, x] H Q (WE W σ)
theorem binop_of1 {op : Operator} {a b : Value} {M : Model} {A : Around} {Q : Value → Shared → Prop} {E : Value → Shared → Prop} {s : Shared} (h : wpAny M A (binaryOp1 op.info.2 a b) (fun r s' => ∃ v, r = some v ∧ Q v s') E s) : wpAny M A (binaryOp op a b) Q E s := by
  rcases hi : op.info with ⟨sym, nm⟩
  rw [hi] at h
  simp only [binaryOp, hi]
  refine wpAny_holding (wpAny_bind (wpAny_mono h (fun r s' hr => ?_) fun _ _ z => z))
  obtain ⟨v, rfl, q⟩ := hr
  exact wpAny_pure q
theorem op_own {op : Operator} {tk : Option Value} (O : OkM X.prog X.w X.K X.mg X.base CX k c (dunder op.info.2) ps [] sp) (N : OwnN X.K (He.ga X.K c)) (R : RvI X.K (He.ga X.K c) (dunderR op.info.2)) (hr : Room k X.A) (hx : ∀ σ, PassesAt CX X σ (WE W σ))
    (hfb : fillsNumberSlot (.type "int") op.info.2 = pure true) (htk : typeLookup (.type "int") (dunderR op.info.2) = pure tk) : OpRS X (binaryOp op) (rOwn (He.ga X.K c) sp W) := by
  intro pins s σ H x y v u Q I rx ry h
  obtain ⟨a, dx, fs, rfl, ha, hy, hs⟩ := h
  cases rx
  obtain ⟨od, J⟩ := inst_of I ha
  obtain ⟨m, hF⟩ := I.fr
  obtain ⟨rv, hrv, hrk⟩ := R
  rcases hy with ⟨b, dy, gs, rfl, hb⟩ | ⟨j, rfl⟩
  · cases ry
    obtain ⟨od', J'⟩ := inst_of I hb
    refine PySem.W.binop_K (op := op) hF I.ok.mod.kin J J'.type N.sf O.meth.at_ O.meth.fn ?_
    refine wpAny_mono (O.runA rfl hr (hx σ) I (vs := [.ref a, .ref b]) (.cons rfl (.cons rfl .nil)) hs) (fun u s' hu => ?_) fun _ _ z => z
    obtain ⟨v, H', I', r, q⟩ := hu
    exact cmpBack_of (Q := EP X pins σ Q) r ⟨v, H', I', r, q⟩
  · obtain ⟨t, rfl⟩ := ry
    refine binop_of1 (binop1_KI (T := "int") hF I.ok.mod.kin J (PySem.W.Looks.of_pure rfl) N.sf hfb N.si htk O.meth.at_ hrv hrk O.meth.fn ?_)
    refine wpAny_mono (O.runA rfl hr (hx σ) I (vs := [.ref a, .int j]) (.cons rfl (.cons ⟨t, rfl⟩ .nil)) hs) (fun u s' hu => ?_) fun _ _ z => z
    obtain ⟨v, H', I', r, q⟩ := hu
    exact cmpBack_of (Q := EP X pins σ Q) r ⟨v, H', I', r, q⟩
/-- an int's method declines an own instance -/
def Decl (id : String) : Prop := ∀ (prog : Program) (w : World) (A : Around) (E : Value → Shared → Prop) (s : Shared) (i : Int) (t : Tok) (a C dx : Addr), s.heap.get? a = some (PySem.W.instObj C dx) → wpAny (model prog w) A (call (.builtin id) [.int i t, .ref a]) (fun v s' => v = .notImplemented ∧ s' = s) E s
theorem op_rown {op : Operator} {id : String} {f : Addr} (O : OkM X.prog X.w X.K X.mg X.base CX k c (dunderR op.info.2) ps [] sp) (M : Meth X.K (He.ga X.K c) (dunder op.info.2) f) (N : OwnN X.K (He.ga X.K c)) (hr : Room k X.A) (hx : ∀ σ, PassesAt CX X σ (WE W σ))
    (hfb : fillsNumberSlot (.type "int") op.info.2 = pure true) (sl : Slot "int" (dunder op.info.2) id) (hd : Decl id) : OpRS X (binaryOp op) (rROwn (He.ga X.K c) sp W) := by
  intro pins s σ H x y v u Q I rx ry h
  obtain ⟨i, b, dx, fs, rfl, rfl, hb, hs⟩ := h
  cases ry
  obtain ⟨t, rfl⟩ := rx
  obtain ⟨od, J⟩ := inst_of I hb
  obtain ⟨m, hF⟩ := I.fr
  refine binop_of1 (binop1_IK (T := "int") hF I.ok.mod.kin J (typeIs_int s i t) N.sf hfb sl N.is_ M.at_ O.meth.at_ O.meth.fn (hd _ _ _ _ _ _ _ _ _ _ J.at_) ?_)
  refine wpAny_mono (O.runA rfl hr (hx σ) I (vs := [.ref b, .int i]) (.cons rfl (.cons ⟨t, rfl⟩ .nil)) hs) (fun u s' hu => ?_) fun _ _ z => z
  obtain ⟨v, H', I', r, q⟩ := hu
  exact cmpBack_of (Q := EP X pins σ Q) r ⟨v, H', I', r, q⟩
/-- an own instance alone -/
def rOwn1 (C : Addr) (sp : Sp) (W : WX) : L2.St → V → Hp → VK → Prop := fun σ x H Q => ∃ a dx fs, x = .ref a ∧ H a = some (.ins C dx fs) ∧ sp [x] H Q (WE W σ)
theorem un_negOwn (O : OkM X.prog X.w X.K X.mg X.base CX k c "__neg__" ps [] sp) (hr : Room k X.A) (hx : ∀ σ, PassesAt CX X σ (WE W σ)) : UnRS X (unaryOp .USub) (rOwn1 (He.ga X.K c) sp W) := by
  intro pins s σ H x v Q I rx h
  obtain ⟨a, dx, fs, rfl, ha, hs⟩ := h
  cases rx
  obtain ⟨od, J⟩ := inst_of I ha
  show wpAny _ _ (holding [.ref a] _) _ _ _
  refine wpAny_holding ?_
  refine wpAny_bind (m := callSpecial? (.ref a) (Str.ofString "__neg__")) (PySem.W.special_fn I.kIn J O.meth.at_ (beq_iff_eq.mp O.meth.fn) (wpAny_mono (O.runA rfl hr (hx σ) I (vs := [.ref a]) (.cons rfl .nil) hs) (fun u s' hu => wpAny_pure hu) fun _ _ z => z))
theorem un_invOwn (O : OkM X.prog X.w X.K X.mg X.base CX k c "__invert__" ps [] sp) (hr : Room k X.A) (hx : ∀ σ, PassesAt CX X σ (WE W σ)) : UnRS X (unaryOp .Invert) (rOwn1 (He.ga X.K c) sp W) := by
  intro pins s σ H x v Q I rx h
  obtain ⟨a, dx, fs, rfl, ha, hs⟩ := h
  cases rx
  obtain ⟨od, J⟩ := inst_of I ha
  show wpAny _ _ (holding [.ref a] _) _ _ _
  refine wpAny_holding ?_
  refine wpAny_bind (m := callSpecial? (.ref a) (Str.ofString "__invert__")) (PySem.W.special_fn I.kIn J O.meth.at_ (beq_iff_eq.mp O.meth.fn) (wpAny_mono (O.runA rfl hr (hx σ) I (vs := [.ref a]) (.cons rfl .nil) hs) (fun u s' hu => wpAny_pure hu) fun _ _ z => z))
theorem call_absOwn (O : OkM X.prog X.w X.K X.mg X.base CX k c "__abs__" ps [] sp) (hr : Room (k + 1) X.A) (hx : ∀ σ, PassesAt CX X σ (WE W σ)) : CallRS X (.builtin "abs") (fun σ xs H Q => ∃ x, xs = [x] ∧ rOwn1 (He.ga X.K c) sp W σ x H Q) := by
  intro pins s σ H xs us Q I r h
  obtain ⟨x, rfl, a, dx, fs, rfl, ha, hs⟩ := h
  obtain ⟨u, rfl, rx⟩ := vals1 r
  cases rx
  obtain ⟨od, J⟩ := inst_of I ha
  refine Calls.call_function_entry kind_abs plain_abs entry_abs (args_abs _) ?_
  unfold Builtin.«abs»
  refine wpAny_bind (m := oneArg "abs" _) (wpAny_pure ?_)
  refine wpAny_bind (m := callSpecial? (.ref a) (Str.ofString "__abs__")) (PySem.W.special_fn I.kIn J O.meth.at_ (beq_iff_eq.mp O.meth.fn) (wpAny_mono (O.runA (A' := X.A.in1) rfl hr.in1 (hx σ) I (vs := [.ref a]) (.cons rfl .nil) hs) (fun u s' hu => ?_) fun _ _ z => z))
  exact wpAny_pure ⟨_, rfl, hu⟩
theorem call_lenOwn (O : OkM X.prog X.w X.K X.mg X.base CX k c "__len__" ps [] sp) (hr : Room (k + 1) X.A) (hx : ∀ σ, PassesAt CX X σ (WE W σ)) : CallRS X (.builtin "len") (fun σ xs H Q => ∃ x, xs = [x] ∧ rOwn1 (He.ga X.K c) sp W σ x H fun v H' => ∃ n : Int, v = .int n ∧ 0 ≤ n ∧ n < 2 ^ 63 ∧ Q (.int n) H') := by
  intro pins s σ H xs us Q I r h
  obtain ⟨x, rfl, a, dx, fs, rfl, ha, hs⟩ := h
  obtain ⟨u, rfl, rx⟩ := vals1 r
  cases rx
  obtain ⟨od, J⟩ := inst_of I ha
  obtain ⟨m, hF⟩ := I.fr
  refine PySem.W.len_K hF I.ok.mod.kin J O.meth.at_ O.meth.fn (wpAny_mono (O.runA (A' := X.A.in1) rfl hr.in1 (hx σ) I (vs := [.ref a]) (.cons rfl .nil) hs) (fun u s' hu => ?_) fun _ _ z => z)
  obtain ⟨v, H', I', r, n, rfl, h0, h1, q⟩ := hu
  obtain ⟨t, rfl⟩ := r
  exact ⟨⟨h0, h1⟩, .int n, H', I'.tok _, ⟨_, rfl⟩, q⟩
/-- x == y .. by own comparisons: y an instance of the same class or an int -/
theorem op_cmpOwn {op : CmpOp} {nm : Str} (hn : (cmpInfo op).2.1 = nm) (hop : compareOp op = richCompare op) (O : OkM X.prog X.w X.K X.mg X.base CX k c nm ps [] sp) (N : OwnN X.K (He.ga X.K c)) (hr : Room k X.A) (hx : ∀ σ, PassesAt CX X σ (WE W σ)) : OpRS X (compareOp op) (rOwn (He.ga X.K c) sp W) := by
  intro pins s σ H x y v u Q I rx ry h
  obtain ⟨a, dx, fs, rfl, ha, hy, hs⟩ := h
  cases rx
  obtain ⟨od, J⟩ := inst_of I ha
  obtain ⟨m, hF⟩ := I.fr
  rw [hop]
  subst hn
  rcases hy with ⟨b, dy, gs, rfl, hb⟩ | ⟨j, rfl⟩
  · cases ry
    obtain ⟨od', J'⟩ := inst_of I hb
    refine PySem.W.cmp_K (op := op) (tb := .ref (He.ga X.K c)) hr.units0 hF I.ok.mod.kin J J'.type (by simp [PySem.W.notFirst]) O.meth.at_ O.meth.fn ?_
    refine wpAny_mono (O.runA rfl hr (hx σ) I (vs := [.ref a, .ref b]) (.cons rfl (.cons rfl .nil)) hs) (fun u s' hu => ?_) fun _ _ z => z
    obtain ⟨v, H', I', r, q⟩ := hu
    exact cmpBack_of (Q := EP X pins σ Q) r ⟨v, H', I', r, q⟩
  · obtain ⟨t, rfl⟩ := ry
    refine PySem.W.cmp_K (op := op) (tb := .type "int") hr.units0 hF I.ok.mod.kin J (PySem.W.Looks.of_pure rfl) (by simp [PySem.W.notFirst, N.si]) O.meth.at_ O.meth.fn ?_
    refine wpAny_mono (O.runA rfl hr (hx σ) I (vs := [.ref a, .int j]) (.cons rfl (.cons ⟨t, rfl⟩ .nil)) hs) (fun u s' hu => ?_) fun _ _ z => z
    obtain ⟨v, H', I', r, q⟩ := hu
    exact cmpBack_of (Q := EP X pins σ Q) r ⟨v, H', I', r, q⟩
/-- v in x, v not in x, by an own __contains__ that gives a bool -/
def rInOwn (C : Addr) (sp : Sp) (W : WX) (neg : Bool) : L2.St → R2 := fun σ x y H Q => ∃ a dx fs, y = .ref a ∧ H a = some (.ins C dx fs) ∧ sp [y, x] H (fun v H' => ∃ b, v = .bl b ∧ Q (.bl (if neg then !b else b)) H') (WE W σ)
theorem op_inOwn (O : OkM X.prog X.w X.K X.mg X.base CX k c "__contains__" ps [] sp) (hr : Room k X.A) (hx : ∀ σ, PassesAt CX X σ (WE W σ)) : OpRS X (compareOp .In) (rInOwn (He.ga X.K c) sp W false) := by
  intro pins s σ H x y v u Q I rx ry h
  obtain ⟨a, dx, fs, rfl, ha, hs⟩ := h
  cases ry
  obtain ⟨od, J⟩ := inst_of I ha
  obtain ⟨m, hF⟩ := I.fr
  refine PySem.W.in_K hF I.ok.mod.kin J O.meth.at_ O.meth.fn (wpAny_mono (O.runA rfl hr (hx σ) I (vs := [.ref a, x]) (.cons rfl (.cons rx .nil)) hs) (fun u s' hu => ?_) fun _ _ z => z)
  obtain ⟨v, H', I', r, b, rfl, q⟩ := hu
  cases r
  exact wpAny_truthy_bool ⟨.bl b, H', I', rfl, q⟩
theorem op_notinOwn (O : OkM X.prog X.w X.K X.mg X.base CX k c "__contains__" ps [] sp) (hr : Room k X.A) (hx : ∀ σ, PassesAt CX X σ (WE W σ)) : OpRS X (compareOp .NotIn) (rInOwn (He.ga X.K c) sp W true) := by
  intro pins s σ H x y v u Q I rx ry h
  obtain ⟨a, dx, fs, rfl, ha, hs⟩ := h
  cases ry
  obtain ⟨od, J⟩ := inst_of I ha
  obtain ⟨m, hF⟩ := I.fr
  refine PySem.W.notIn_K hF I.ok.mod.kin J O.meth.at_ O.meth.fn (wpAny_mono (O.runA rfl hr (hx σ) I (vs := [.ref a, x]) (.cons rfl (.cons rx .nil)) hs) (fun u s' hu => ?_) fun _ _ z => z)
  obtain ⟨v, H', I', r, b, rfl, q⟩ := hu
  cases r
  exact wpAny_truthy_bool ⟨.bl (!b), H', I', rfl, q⟩
end
end PB
namespace PB
open PySem PySem.Spec PyProof.Rows L2
theorem decl_of {id : String} {name : String} {g : Int → Int → Sem PySem.Fin} {nm : Str} {b : Builtin} (sl : Slot "int" nm id) (en : entryFor table id = some b) (hb : b = Builtin.Int.intBinary name g) (ar : ∀ a b : Value, argsOk id ⟨[a, b], []⟩) : Decl id := by
  intro prog w A E s i t a C dx ha
  refine wpAny_call_entry sl (typeIs_int s i t) en ?_ (ar _ _)
  rw [hb]
  show wpAny _ _ (do
    let some y ← asInt? (.ref a) | rule "int.binary.not-an-int"; ret .notImplemented
    g i y) _ _ s
  refine wpAny_bind ?_
  show wpAny _ _ (do
    match (← load a).data with
    | .prim (.int i _) => pure (some i)
    | _ => pure none) _ _ s
  refine wpAny_bind (wpAny_load ha ?_)
  refine wpAny_pure ?_
  exact wpAny_bind (wpAny_rule (wpAny_pure ⟨_, rfl, rfl, rfl⟩))
theorem decl_add : Decl "int.__add__" := decl_of PySem.F.slot_int_add PySem.F.entry_int_add rfl PySem.F.args_int_add_2
theorem decl_sub : Decl "int.__sub__" := decl_of PySem.F.slot_int_sub PySem.F.entry_int_sub rfl PySem.F.args_int_sub_2
theorem decl_mul : Decl "int.__mul__" := decl_of PySem.F.slot_int_mul PySem.F.entry_int_mul rfl PySem.F.args_int_mul_2
theorem tk_add : typeLookup (.type "int") (dunderR (Operator.info .Add).2) = pure (some (.builtin "int.__radd__")) := by kernel_rfl
theorem tk_sub : typeLookup (.type "int") (dunderR (Operator.info .Sub).2) = pure (some (.builtin "int.__rsub__")) := by kernel_rfl
theorem tk_mul : typeLookup (.type "int") (dunderR (Operator.info .Mult).2) = pure (some (.builtin "int.__rmul__")) := by kernel_rfl
theorem tk_fdiv : typeLookup (.type "int") (dunderR (Operator.info .FloorDiv).2) = pure (some (.builtin "int.__rfloordiv__")) := by kernel_rfl
theorem tk_mod : typeLookup (.type "int") (dunderR (Operator.info .Mod).2) = pure (some (.builtin "int.__rmod__")) := by kernel_rfl
/-! ## the head's facts: He's, and any others by a Bool of the written part -/
def obsP (n : Nat) (fa : List He.Fa) (fn : List He.DefD) (bs : List (PySem.W.Frag → Bool)) (g : Addr → Option Obj) : Bool × He.AlD := (bs.all fun b => b (He.frG g (He.asD g n)), He.obsDG n fa fn g)
def SaysP (fa : List He.Fa) (fn : List He.DefD) (bs : List (PySem.W.Frag → Bool)) (K : PySem.W.Frag) : Prop := He.SaysD fa fn K ∧ (bs.all fun b => b K) = true
def hookP (n : Nat) (fa : List He.Fa) (fn : List He.DefD) (bs : List (PySem.W.Frag → Bool)) : PySem.W.Hook where
  α := Bool × He.AlD
  obs := fun s => obsP n fa fn bs s.heap.get?
  val := fun _ => (true, He.valD fn)
  says := fun _ h => ∃ K : PySem.W.Frag, K.In h ∧ SaysP fa fn bs K
  of := fun _ _ e => ⟨_, He.frG_in, (congrArg Prod.snd e), (congrArg Prod.fst e)⟩
  keeps := fun _ _ _ ⟨K, hK, c⟩ k => ⟨K, PySem.W.Frag.In.keeps hK k, c⟩
theorem obsP_eq {n : Nat} {fa : List He.Fa} {fn : List He.DefD} {bs : List (PySem.W.Frag → Bool)} {g : Addr → Option Obj} {s : Shared} (h : ∀ a, g a = s.heap.get? a) : obsP n fa fn bs g = (hookP n fa fn bs).obs s := by
  have e : g = s.heap.get? := funext h
  rw [e] <;> rfl
theorem SaysP.bool {fa : List He.Fa} {fn : List He.DefD} {bs : List (PySem.W.Frag → Bool)} {K : PySem.W.Frag} (c : SaysP fa fn bs K) (i : Nat) {b : PySem.W.Frag → Bool} (h : bs[i]? = some b := by rfl) : b K = true :=
  List.all_eq_true.mp c.2 b (List.mem_of_getElem? h)
end PB
namespace PB
open PySem PySem.Spec PyProof.Rows L2
/-! ## isinstance -/
/-- what isinstance asks of an own class, and its answers for builtin types -/
structure IsiC (K : PySem.W.Frag) (C : Addr) : Prop where
  ic : C8.InsC K C
  no : ∀ n ∈ ["int", "bool", "str", "list", "tuple", "NoneType"], PySem.W.kitOne K (.type n) (.ref C) = some false
  on : ∀ n ∈ ["int", "bool", "str", "list", "tuple"], PySem.W.kitOne K (.ref C) (.type n) = some false
def isiB (x : Str) (K : PySem.W.Frag) : Bool :=
  (Fa_cls x K && (He.eqO (PySem.W.findIn K (.ref (He.ga K x)) "__class__") (some (some (.builtin "object.__class__"))) && (He.eqO (PySem.W.specialIn K (.builtin "object.__class__") "__get__") (some (some (.builtin "getset_descriptor.__get__"))) &&
    (decide (PySem.W.takesIn K (.builtin "object.__class__") = some true) && (decide (PySem.W.mroIn K (He.ga K x) (.type "object") = some true) && decide (PySem.W.kitOne K (.ref (He.ga K x)) (.ref (He.ga K x)) = some true)))))) &&
  (["int", "bool", "str", "list", "tuple", "NoneType"].all fun n => decide (PySem.W.kitOne K (.type n) (.ref (He.ga K x)) = some false)) && (["int", "bool", "str", "list", "tuple"].all fun n => decide (PySem.W.kitOne K (.ref (He.ga K x)) (.type n) = some false))
where Fa_cls (x : Str) (K : PySem.W.Frag) : Bool := (He.Fa.cls x).ok K
theorem isi_of {x : Str} {K : PySem.W.Frag} (h : isiB x K = true) : IsiC K (He.ga K x) := by
  obtain ⟨h, h3⟩ := He.ba h
  obtain ⟨h1, h2⟩ := He.ba h
  obtain ⟨a, h1⟩ := He.ba h1
  obtain ⟨b, h1⟩ := He.ba h1
  obtain ⟨c, h1⟩ := He.ba h1
  obtain ⟨d, h1⟩ := He.ba h1
  obtain ⟨e, f⟩ := He.ba h1
  exact ⟨⟨He.cls_ok a, He.eqO_ok b, He.eqO_ok c, of_decide_eq_true d, of_decide_eq_true e, of_decide_eq_true f⟩, fun n hn => of_decide_eq_true (List.all_eq_true.mp h2 n hn), fun n hn => of_decide_eq_true (List.all_eq_true.mp h3 n hn)⟩
section
variable {K : PySem.W.Frag} {H : Hp} {Q : VK} {σ : L2.St} {a b C dx dy : Addr} {fs gs : List (Str × V)} {n : String} {k : Bool} {sp : Sp} {W : WX} {x y : V} {i j : Int}
theorem i_isi {t u : Value} {c : V} (ht : TyX K H x t) (hc : ClsV c u) (hk : PySem.W.kitOne K t u = some k) (h : Q (.bl k) H) : rIsi K [x, c] H Q := ⟨x, c, t, u, k, rfl, hc, ht, hk, h⟩
theorem i_isi_intT (h : Q (.bl true) H) (hk : kitB "int" n = some true := by decide +kernel) : rIsi K [.int i, .ty n] H Q := i_isi (.base (.int i)) (.ty n) (kit_ty hk) h
theorem i_isi_intF (h : Q (.bl false) H) (hk : kitB "int" n = some false := by decide +kernel) : rIsi K [.int i, .ty n] H Q := i_isi (.base (.int i)) (.ty n) (kit_ty hk) h
theorem i_isi_blT {z : Bool} (h : Q (.bl true) H) (hk : kitB "bool" n = some true := by decide +kernel) : rIsi K [.bl z, .ty n] H Q := i_isi (.base (.bl z)) (.ty n) (kit_ty hk) h
theorem i_isi_blF {z : Bool} (h : Q (.bl false) H) (hk : kitB "bool" n = some false := by decide +kernel) : rIsi K [.bl z, .ty n] H Q := i_isi (.base (.bl z)) (.ty n) (kit_ty hk) h
theorem i_isi_strT {z : Str} (h : Q (.bl true) H) (hk : kitB "str" n = some true := by decide +kernel) : rIsi K [.str z, .ty n] H Q := i_isi (.base (.str z)) (.ty n) (kit_ty hk) h
theorem i_isi_strF {z : Str} (h : Q (.bl false) H) (hk : kitB "str" n = some false := by decide +kernel) : rIsi K [.str z, .ty n] H Q := i_isi (.base (.str z)) (.ty n) (kit_ty hk) h
theorem i_isi_nonT (h : Q (.bl true) H) (hk : kitB "NoneType" n = some true := by decide +kernel) : rIsi K [.non, .ty n] H Q := i_isi (.base .non) (.ty n) (kit_ty hk) h
theorem i_isi_nonF (h : Q (.bl false) H) (hk : kitB "NoneType" n = some false := by decide +kernel) : rIsi K [.non, .ty n] H Q := i_isi (.base .non) (.ty n) (kit_ty hk) h
theorem i_isi_lstT {xs : List V} (ha : H a = some (.lst xs)) (h : Q (.bl true) H) (hk : kitB "list" n = some true := by decide +kernel) : rIsi K [.ref a, .ty n] H Q := i_isi (.base (.lst ha)) (.ty n) (kit_ty hk) h
theorem i_isi_lstF {xs : List V} (ha : H a = some (.lst xs)) (h : Q (.bl false) H) (hk : kitB "list" n = some false := by decide +kernel) : rIsi K [.ref a, .ty n] H Q := i_isi (.base (.lst ha)) (.ty n) (kit_ty hk) h
theorem i_isi_tupT {xs : List V} (ha : H a = some (.tup xs)) (h : Q (.bl true) H) (hk : kitB "tuple" n = some true := by decide +kernel) : rIsi K [.ref a, .ty n] H Q := i_isi (.base (.tup ha)) (.ty n) (kit_ty hk) h
theorem i_isi_tupF {xs : List V} (ha : H a = some (.tup xs)) (h : Q (.bl false) H) (hk : kitB "tuple" n = some false := by decide +kernel) : rIsi K [.ref a, .ty n] H Q := i_isi (.base (.tup ha)) (.ty n) (kit_ty hk) h
theorem i_isi_own (c : IsiC K C) (ha : H a = some (.ins C dx fs)) (h : Q (.bl true) H) : rIsi K [.ref a, .ref C] H Q := i_isi (.base (.ins ha c.ic.cl c.ic.ha c.ic.hn c.ic.htk c.ic.hm)) (.own C) c.ic.me h
theorem i_isi_ownTy (c : IsiC K C) (ha : H a = some (.ins C dx fs)) (h : Q (.bl false) H) (hn : n ∈ ["int", "bool", "str", "list", "tuple"] := by decide) : rIsi K [.ref a, .ty n] H Q := i_isi (.base (.ins ha c.ic.cl c.ic.ha c.ic.hn c.ic.htk c.ic.hm)) (.ty n) (c.on n hn) h
theorem i_isi_intOwn (c : IsiC K C) (h : Q (.bl false) H) : rIsi K [.int i, .ref C] H Q := i_isi (.base (.int i)) (.own C) (c.no "int" (by decide)) h
/-! own operators -/
theorem i_own (ha : H a = some (.ins C dx fs)) (hb : H b = some (.ins C dy gs)) (h : sp [.ref a, .ref b] H Q (WE W σ)) : rOwn C sp W σ (.ref a) (.ref b) H Q := ⟨a, dx, fs, rfl, ha, .inl ⟨b, dy, gs, rfl, hb⟩, h⟩
theorem i_ownI (ha : H a = some (.ins C dx fs)) (h : sp [.ref a, .int j] H Q (WE W σ)) : rOwn C sp W σ (.ref a) (.int j) H Q := ⟨a, dx, fs, rfl, ha, .inr ⟨j, rfl⟩, h⟩
theorem i_rown (hb : H b = some (.ins C dx fs)) (h : sp [.ref b, .int i] H Q (WE W σ)) : rROwn C sp W σ (.int i) (.ref b) H Q := ⟨i, b, dx, fs, rfl, rfl, hb, h⟩
theorem i_own1 (ha : H a = some (.ins C dx fs)) (h : sp [.ref a] H Q (WE W σ)) : rOwn1 C sp W σ (.ref a) H Q := ⟨a, dx, fs, rfl, ha, h⟩
/-- C(..): the maker's start -/
theorem i_newI {vs : List V} {E : XK} (h : ∀ x dx H', H x = none → Keep [] H H' → H' x = some (.ins C dx []) → sp (.ref x :: vs) H' (fun v H2 => v = .non ∧ Q (.ref x) H2) E) : NewI C sp vs E H Q := by
  intro x dx hx hdx hne
  refine h x dx _ hx ?_ upd_same
  have k1 : Keep [] H (upd H dx (.own x)) := Keep.new hdx
  refine k1.trans (Keep.new ?_)
  rw [upd_ne (Ne.symm hne)]
  exact hx
end
end PB
namespace PB
open PySem PySem.Spec PyProof.Rows L2
/-! ## keywords -/
/-- f(e, .., k = v, ..) where every parameter is given, of a def with defaults -/
theorem kbD {K : PySem.W.Frag} {x qual : Str} {params : Arguments} {body : List Stmt} {scope : Scope} {dvs : List V} {kws : List (Str × V)} {f : Addr} {fd : FuncData} {ps : List Str} (F : FunD K x qual params body scope dvs kws f fd) (n : Nat) (ks : List Str) (g : {α : Type} → List α → List α → List α) (hd : dvs ≠ [])
    (hrel : ∀ {vs zs : List V} {us ws : List Value}, Vals vs us → Vals zs ws → Vals (g vs zs) (g us ws))
    (h : ∀ (T : Addr) (kV doc pm : Value) (an : Option Addr) (cdv ct : Value) (us its ws : List Value), us.length = n → its.length = dvs.length → ws.length = ks.length →
      ∃ k, bindArgs (PySem.W.fnOf x qual params body scope (.ref T) kV doc pm an cdv ct) ⟨us, ks.zip ws⟩ = seqItems? (.ref T) >>= k ∧ k (some its.toArray) = pure (ps.zip (g us ws))) : KBn K fd ps n ks (fun us ws => g us ws) (fun vs zs => g vs zs) := by
  obtain ⟨oc, od, dV, kV, doc, pm, an, cdv, ct, osl, rfl, lk, hcd, hD, hK⟩ := F.ex
  rcases hD with ⟨e, _⟩ | ⟨_, T, o, its, m, rfl, lT, oT, rT⟩
  · exact absurd e hd
  · refine ⟨fun s us ws X l1 l2 => ?_, fun r1 r2 => hrel r1 r2⟩
    obtain ⟨k, e1, e2⟩ := h T kV doc pm an cdv ct us its ws l1 rT.length.symm l2
    refine BindsTo.of_looks fun M => ?_
    rw [e1]
    exact looks_items X lT oT (.of_pure e2)
/-- the same of a def without defaults -/
theorem kbN {K : PySem.W.Frag} {x qual : Str} {params : Arguments} {body : List Stmt} {scope : Scope} {kws : List (Str × V)} {f : Addr} {fd : FuncData} {ps : List Str} (F : FunD K x qual params body scope [] kws f fd) (n : Nat) (ks : List Str) (g : {α : Type} → List α → List α → List α)
    (hrel : ∀ {vs zs : List V} {us ws : List Value}, Vals vs us → Vals zs ws → Vals (g vs zs) (g us ws))
    (h : ∀ (kV doc pm : Value) (an : Option Addr) (cdv ct : Value) (us ws : List Value), us.length = n → ws.length = ks.length →
      bindArgs (PySem.W.fnOf x qual params body scope .none kV doc pm an cdv ct) ⟨us, ks.zip ws⟩ = pure (ps.zip (g us ws))) : KBn K fd ps n ks (fun us ws => g us ws) (fun vs zs => g vs zs) := by
  obtain ⟨oc, od, dV, kV, doc, pm, an, cdv, ct, osl, rfl, lk, hcd, hD, hK⟩ := F.ex
  rcases hD with ⟨_, rfl⟩ | ⟨e, _⟩
  · exact ⟨fun s us ws X l1 l2 => .of_eq (h kV doc pm an cdv ct us ws l1 l2), fun r1 r2 => hrel r1 r2⟩
  · exact absurd rfl e
theorem i_makeK0 {σ : L2.St} {H : Hp} {Q : VK} {C : Addr} {m : Nat} {sp : Sp} {E : XK} {tk : TA} (h : tk σ H fun zs H2 => zs.length = m ∧ NewI C sp zs E H2 Q) : tMakeK C 0 m sp (fun vs zs => vs ++ zs) E tNil tk σ H Q := by
  have e : (fun zs H2 => zs.length = m ∧ NewI C sp zs E H2 Q) = fun (zs : List V) (H2 : Hp) => ([] : List V).length = 0 ∧ zs.length = m ∧ NewI C sp zs E H2 Q := by
    funext zs H2
    simp
  rw [e] at h
  exact h
/-! ## walks by names -/
def LcJ (J : It) (g : TG) (tt : TT) (te : TE) (vs : List Nat) (σ : L2.St) (Q : VK) (H1 : Hp) : Prop := ∀ D, H1 D = none → ∃ W : Nat → Nat → Hp → Prop, (∃ m, W 0 m (upd H1 D (.lst []))) ∧ ∀ i m H, W i m H →
  (J.stop i H ∧ Q (.ref D) H) ∨ (J.go i H ∧ ∃ Nx : Hp → Prop, (∀ H', Nx H' → ∃ m', m' < m ∧ W (i + 1) m' H') ∧ ∀ x H', J.yld i H x H' → g x (wipe σ vs) H' fun σ2 H2 => wipe σ2 vs = wipe σ vs ∧ tt σ2 H2 fun b H3 =>
    if b = true then te σ2 H3 fun y H4 => ∃ acc, H4 D = some (.lst acc) ∧ acc.length < sizeLine ∧ Nx (upd H4 D (.lst (acc ++ [y]))) else Nx H3)
def ForJ (J : It) (g : TG) (tb : TS) (D : Ends) (σ : L2.St) (H1 : Hp) : Prop := ∃ W : Nat → Nat → L2.St → Hp → Prop, (∃ m, W 0 m σ H1) ∧ ∀ i m σ H, W i m σ H →
  (J.stop i H ∧ D.nx σ H) ∨ (J.go i H ∧ ∃ N : L2.St → Hp → Prop, (∀ σ' H', N σ' H' → ∃ m', m' < m ∧ W (i + 1) m' σ' H') ∧ ∀ x H', J.yld i H x H' → g x σ H' fun σ2 H2 => tb { D with nx := N, ct := N, bk := D.nx } σ2 H2)
def ItL (K : PySem.W.Frag) (R : It → Hp → Prop) (x : V) (H : Hp) : Prop := ∃ a, x = .ref a ∧ (∃ xs, SqL K H a xs) ∧ R (Itl K a) H
def ItT (K : PySem.W.Frag) (R : It → Hp → Prop) (x : V) (H : Hp) : Prop := ∃ a, x = .ref a ∧ (∃ xs, SqT K H a xs) ∧ R (Itt K a) H
def ItR1 (R : It → Hp → Prop) (vs : List V) (H : Hp) : Prop := ∃ j : Int, vs = [.int j] ∧ -(2 ^ 62) ≤ j ∧ j < 2 ^ 62 ∧ R (Itr 0 j.toNat) H
def ItR2 (R : It → Hp → Prop) (vs : List V) (H : Hp) : Prop := ∃ i j : Int, vs = [.int i, .int j] ∧ (-(2 ^ 62) ≤ i ∧ i < 2 ^ 62 ∧ -(2 ^ 62) ≤ j ∧ j < 2 ^ 62) ∧ R (Itr i (j - i).toNat) H
/-- the end of a comprehension's turn -/
def LcPut (D : Addr) (Nx : Hp → Prop) (y : V) (H : Hp) : Prop := ∃ acc, H D = some (.lst acc) ∧ acc.length < sizeLine ∧ Nx (upd H D (.lst (acc ++ [y])))
section
variable {σ : L2.St} {H : Hp} {Q : VK} {K : PySem.W.Frag} {a : Addr} {xs : List V} {g : TG} {tt : TT} {te : TE} {vs : List Nat} {ta : TE} {tA : TA} {D : Ends} {tb : TS} {wi : TI} {R : It → Hp → Prop}
theorem i_lc (h : wi σ H fun J H1 => LcJ J g tt te vs σ Q H1) : tLc wi g tt te vs σ H Q := h
theorem i_for (h : wi σ H fun J H1 => ForJ J g tb D σ H1) : tFor wi g tb D σ H := h
theorem i_iList (h : ta σ H fun x H1 => ItL K R x H1) : iList K ta σ H R := h
theorem i_iTup (h : ta σ H fun x H1 => ItT K R x H1) : iTup K ta σ H R := h
theorem i_iRng1 (h : tA σ H fun x H1 => ItR1 R x H1) : iRng1 tA σ H R := h
theorem i_iRng2 (h : tA σ H fun x H1 => ItR2 R x H1) : iRng2 tA σ H R := h
theorem i_itL (hs : SqL K H a xs) (h : R (Itl K a) H) : ItL K R (.ref a) H := ⟨a, rfl, ⟨xs, hs⟩, h⟩
theorem i_itT (hs : SqT K H a xs) (h : R (Itt K a) H) : ItT K R (.ref a) H := ⟨a, rfl, ⟨xs, hs⟩, h⟩
theorem i_itR1 {n : Int} (h0 : -4611686018427387904 ≤ n) (h1 : n < 4611686018427387904) (h : R (Itr 0 n.toNat) H) : ItR1 R [.int n] H := ⟨n, rfl, by omega, by omega, h⟩
theorem i_itR2 {m n : Int} (h0 : -4611686018427387904 ≤ m ∧ m < 4611686018427387904 ∧ -4611686018427387904 ≤ n ∧ n < 4611686018427387904) (h : R (Itr m (n - m).toNat) H) : ItR2 R [.int m, .int n] H := ⟨m, n, rfl, by omega, h⟩
theorem i_yes {G : Bool → Hp → Prop} (h : G true H) : tYes σ H G := h
/-- [e for x in xs] -/
theorem r_lcL (hs : SqL K H a xs) (h : ∀ Dl H1, H Dl = none → Keep [] H H1 → H1 Dl = some (.lst []) → ∃ Pv : Nat → Hp → Prop, Pv 0 H1 ∧ (∀ i H2, i ≤ xs.length → Pv i H2 → SqL K H2 a xs) ∧
    (∀ i x H2, xs[i]? = some x → Pv i H2 → g x (wipe σ vs) H2 fun σ2 H3 => wipe σ2 vs = wipe σ vs ∧ tt σ2 H3 fun b H4 => if b = true then te σ2 H4 fun y H5 => LcPut Dl (Pv (i + 1)) y H5 else Pv (i + 1) H4) ∧
    ∀ H2, Pv xs.length H2 → Q (.ref Dl) H2) : LcJ (Itl K a) g tt te vs σ Q H := by
  intro Dl hD
  obtain ⟨Pv, p0, pl, ps, pd⟩ := h Dl _ hD (Keep.new hD) upd_same
  exact lc_list Pv p0 pl ps pd
theorem r_lcR {lo : Int} {n : Nat} (h : ∀ Dl H1, H Dl = none → Keep [] H H1 → H1 Dl = some (.lst []) → ∃ Pv : Nat → Hp → Prop, Pv 0 H1 ∧
    (∀ i H2, i < n → Pv i H2 → g (.int (lo + i)) (wipe σ vs) H2 fun σ2 H3 => wipe σ2 vs = wipe σ vs ∧ tt σ2 H3 fun b H4 => if b = true then te σ2 H4 fun y H5 => LcPut Dl (Pv (i + 1)) y H5 else Pv (i + 1) H4) ∧
    ∀ H2, Pv n H2 → Q (.ref Dl) H2) : LcJ (Itr lo n) g tt te vs σ Q H := by
  intro Dl hD
  obtain ⟨Pv, p0, ps, pd⟩ := h Dl _ hD (Keep.new hD) upd_same
  exact lc_range Pv p0 ps pd
theorem r_lcT (hs : SqT K H a xs) (h : ∀ Dl H1, H Dl = none → Keep [] H H1 → H1 Dl = some (.lst []) → ∃ Pv : Nat → Hp → Prop, Pv 0 H1 ∧ (∀ i H2, i ≤ xs.length → Pv i H2 → SqT K H2 a xs) ∧
    (∀ i x H2, xs[i]? = some x → Pv i H2 → g x (wipe σ vs) H2 fun σ2 H3 => wipe σ2 vs = wipe σ vs ∧ tt σ2 H3 fun b H4 => if b = true then te σ2 H4 fun y H5 => LcPut Dl (Pv (i + 1)) y H5 else Pv (i + 1) H4) ∧
    ∀ H2, Pv xs.length H2 → Q (.ref Dl) H2) : LcJ (Itt K a) g tt te vs σ Q H := by
  intro Dl hD
  obtain ⟨Pv, p0, pl, ps, pd⟩ := h Dl _ hD (Keep.new hD) upd_same
  exact lc_tup Pv p0 pl ps pd
theorem i_put {Dl : Addr} {Nx : Hp → Prop} {y : V} {acc : List V} (ho : H Dl = some (.lst acc)) (hz : acc.length < sizeLine) (h : ∀ H', Keep [Dl] H H' → H' Dl = some (.lst (acc ++ [y])) → Nx H') : LcPut Dl Nx y H :=
  ⟨acc, ho, hz, h _ (Keep.set' (by simp) ho (fun z => z)) upd_same⟩
/-- for x in xs -/
theorem r_forL (hs : SqL K H a xs) (Pv : Nat → L2.St → Hp → Prop) (h0 : Pv 0 σ H) (hl : ∀ i σ' H', i ≤ xs.length → Pv i σ' H' → SqL K H' a xs)
    (ht : ∀ i x σ' H', xs[i]? = some x → Pv i σ' H' → g x σ' H' fun σ2 H2 => tb { D with nx := Pv (i + 1), ct := Pv (i + 1), bk := D.nx } σ2 H2) (hd : ∀ σ' H', Pv xs.length σ' H' → D.nx σ' H') : ForJ (Itl K a) g tb D σ H := for_list Pv h0 hl ht hd
theorem r_forT (hs : SqT K H a xs) (Pv : Nat → L2.St → Hp → Prop) (h0 : Pv 0 σ H) (hl : ∀ i σ' H', i ≤ xs.length → Pv i σ' H' → SqT K H' a xs)
    (ht : ∀ i x σ' H', xs[i]? = some x → Pv i σ' H' → g x σ' H' fun σ2 H2 => tb { D with nx := Pv (i + 1), ct := Pv (i + 1), bk := D.nx } σ2 H2) (hd : ∀ σ' H', Pv xs.length σ' H' → D.nx σ' H') : ForJ (Itt K a) g tb D σ H := for_tup Pv h0 hl ht hd
theorem r_forR {lo : Int} {n : Nat} (Pv : Nat → L2.St → Hp → Prop) (h0 : Pv 0 σ H)
    (ht : ∀ i σ' H', i < n → Pv i σ' H' → g (.int (lo + i)) σ' H' fun σ2 H2 => tb { D with nx := Pv (i + 1), ct := Pv (i + 1), bk := D.nx } σ2 H2) (hd : ∀ σ' H', Pv n σ' H' → D.nx σ' H') : ForJ (Itr lo n) g tb D σ H := for_range Pv h0 ht hd
theorem i_all {bs : List Bool} (hs : SqL K H a (bs.map V.bl)) (h : Q (.bl (bs.all id)) H) : rAll K [.ref a] H Q := ⟨a, bs, rfl, hs, h⟩
theorem i_len {n : Nat} {x : V} {G : V → Nat → Prop} (hl : LenV K x H n) (h : Q (.int n) H) : ∃ x' n', [x] = [x'] ∧ LenV K x' H n' ∧ Q (.int (n' : Nat)) H := ⟨x, n, rfl, hl, h⟩
end
end PB
local macro_rules | `(tactic| walk_at "pb1") => `(tactic| with_reducible (first | apply PB.i_lc | apply PB.i_for | apply PB.i_iList | apply PB.i_iTup | apply PB.i_iRng1 | apply PB.i_iRng2 | apply PB.i_yes | apply PB.i_makeK0))
namespace PB
open PySem PySem.Spec PyProof.Rows L2
/-! ## unions with slots -/
theorem opS_of {X : Cx} {f : Value → Value → Sem Value} {r : R2} (h : OpR X f r) : OpRS X f (fun _ => r) := fun pins s σ H x y v u Q I rx ry q => h pins s σ H x y v u Q I rx ry q
theorem opS_or {X : Cx} {f : Value → Value → Sem Value} {r r' : L2.St → R2} (h : OpRS X f r) (h' : OpRS X f r') : OpRS X f (fun σ x y H Q => r σ x y H Q ∨ r' σ x y H Q) :=
  fun pins s σ H x y v u Q I rx ry q => q.elim (fun q => h pins s σ H x y v u Q I rx ry q) fun q => h' pins s σ H x y v u Q I rx ry q
/-! ## sizes -/
theorem sz_mul {i j : Int} {a b n : Nat} (h : i.natAbs < 2 ^ a) (g : j.natAbs < 2 ^ b) (hn : a + b ≤ n) : (i * j).natAbs < 2 ^ n := Nat.lt_of_lt_of_le (wide_lt h g) (Nat.pow_le_pow_right (by decide) hn)
theorem sz_mono {i : Int} {a n : Nat} (h : i.natAbs < 2 ^ a) (hn : a ≤ n) : i.natAbs < 2 ^ n := Nat.lt_of_lt_of_le h (Nat.pow_le_pow_right (by decide) hn)
theorem sz_add {i j : Int} {a b n : Nat} (h : i.natAbs < 2 ^ a) (g : j.natAbs < 2 ^ b) (ha : a < n) (hb : b < n) : (i + j).natAbs < 2 ^ n := by
  have h1 := sz_mono (n := n - 1) h (by omega)
  have h2 := sz_mono (n := n - 1) g (by omega)
  have e : 2 ^ n = 2 ^ (n - 1) * 2 := by rw [← Nat.pow_succ]; congr 1; omega
  rw [e]
  omega
theorem sz_sub {i j : Int} {a b n : Nat} (h : i.natAbs < 2 ^ a) (g : j.natAbs < 2 ^ b) (ha : a < n) (hb : b < n) : (i - j).natAbs < 2 ^ n := by
  have e : i - j = i + -j := by omega
  rw [e]
  exact sz_add h (by rw [Int.natAbs_neg]; exact g) ha hb
theorem sz_fdiv (i j : Int) : (i.fdiv j).natAbs ≤ i.natAbs := by
  rcases Int.le_total 0 j with h | h
  · rw [Int.fdiv_eq_ediv_of_nonneg _ h]
    exact Int.natAbs_ediv_le_natAbs ..
  · rw [← Int.neg_fdiv_neg, Int.fdiv_eq_ediv_of_nonneg _ (show 0 ≤ -j by omega)]
    have := Int.natAbs_ediv_le_natAbs (-i) (-j)
    rw [Int.natAbs_neg i] at this
    exact this
theorem fdiv_scale (p q c : Int) (hc : c ≠ 0) : (p * c).fdiv (q * c) = p.fdiv q := by
  rcases Int.lt_or_gt_of_ne hc with h | h
  · rw [← Int.neg_fdiv_neg, ← Int.mul_neg, ← Int.mul_neg, Int.mul_comm p, Int.mul_comm q]
    exact Int.mul_fdiv_mul_of_pos _ _ (by omega)
  · rw [Int.mul_comm p, Int.mul_comm q]
    exact Int.mul_fdiv_mul_of_pos _ _ h
/-- the same fraction, the same floor -/
theorem fdiv_cross {p q p' q' : Int} (hq : q ≠ 0) (hq' : q' ≠ 0) (e : p * q' = p' * q) : p.fdiv q = p'.fdiv q' := by
  rw [← fdiv_scale p q q' hq', e, ← fdiv_scale p' q' q hq, Int.mul_comm q q']
end PB
namespace Lw
open PySem PySem.Spec PyProof.Rows L2 PB
def topS (i : Nat) : Stmt := PySem.Challenge.pw_pairahead_k02_ratio_quotients.main.body.getD i (.Pass ⟨0, 0, 0, 0⟩)
def d_divisor : He.DefD := ⟨("divisor", none), "divisor", "divisor", defArgs (topS 1), defBody (topS 1), defScope (topS 1), [], []⟩
def d_fraction : He.DefD := ⟨("fraction", none), "fraction", "fraction", defArgs (topS 2), defBody (topS 2), defScope (topS 2), [], []⟩
def d_Ratio_DinitD : He.DefD := ⟨("Ratio", some "__init__"), "__init__", "Ratio.__init__", defArgs (inClass (topS 3) 0), defBody (inClass (topS 3) 0), defScope (inClass (topS 3) 0), [.int 1], []⟩
def d_Ratio_DstrD : He.DefD := ⟨("Ratio", some "__str__"), "__str__", "Ratio.__str__", defArgs (inClass (topS 3) 1), defBody (inClass (topS 3) 1), defScope (inClass (topS 3) 1), [], []⟩
def d_Ratio_DaddD : He.DefD := ⟨("Ratio", some "__add__"), "__add__", "Ratio.__add__", defArgs (inClass (topS 3) 2), defBody (inClass (topS 3) 2), defScope (inClass (topS 3) 2), [], []⟩
def d_Ratio_DraddD : He.DefD := ⟨("Ratio", some "__radd__"), "__radd__", "Ratio.__radd__", defArgs (inClass (topS 3) 3), defBody (inClass (topS 3) 3), defScope (inClass (topS 3) 3), [], []⟩
def d_Ratio_DsubD : He.DefD := ⟨("Ratio", some "__sub__"), "__sub__", "Ratio.__sub__", defArgs (inClass (topS 3) 4), defBody (inClass (topS 3) 4), defScope (inClass (topS 3) 4), [], []⟩
def d_Ratio_DrsubD : He.DefD := ⟨("Ratio", some "__rsub__"), "__rsub__", "Ratio.__rsub__", defArgs (inClass (topS 3) 5), defBody (inClass (topS 3) 5), defScope (inClass (topS 3) 5), [], []⟩
def d_Ratio_DmulD : He.DefD := ⟨("Ratio", some "__mul__"), "__mul__", "Ratio.__mul__", defArgs (inClass (topS 3) 6), defBody (inClass (topS 3) 6), defScope (inClass (topS 3) 6), [], []⟩
def d_Ratio_DrmulD : He.DefD := ⟨("Ratio", some "__rmul__"), "__rmul__", "Ratio.__rmul__", defArgs (inClass (topS 3) 7), defBody (inClass (topS 3) 7), defScope (inClass (topS 3) 7), [], []⟩
def d_Ratio_DfloordivD : He.DefD := ⟨("Ratio", some "__floordiv__"), "__floordiv__", "Ratio.__floordiv__", defArgs (inClass (topS 3) 8), defBody (inClass (topS 3) 8), defScope (inClass (topS 3) 8), [], []⟩
def d_Ratio_DmodD : He.DefD := ⟨("Ratio", some "__mod__"), "__mod__", "Ratio.__mod__", defArgs (inClass (topS 3) 9), defBody (inClass (topS 3) 9), defScope (inClass (topS 3) 9), [], []⟩
def d_Ratio_DnegD : He.DefD := ⟨("Ratio", some "__neg__"), "__neg__", "Ratio.__neg__", defArgs (inClass (topS 3) 10), defBody (inClass (topS 3) 10), defScope (inClass (topS 3) 10), [], []⟩
def d_Ratio_DabsD : He.DefD := ⟨("Ratio", some "__abs__"), "__abs__", "Ratio.__abs__", defArgs (inClass (topS 3) 11), defBody (inClass (topS 3) 11), defScope (inClass (topS 3) 11), [], []⟩
def d_Ratio_DboolD : He.DefD := ⟨("Ratio", some "__bool__"), "__bool__", "Ratio.__bool__", defArgs (inClass (topS 3) 12), defBody (inClass (topS 3) 12), defScope (inClass (topS 3) 12), [], []⟩
def d_Ratio_DeqD : He.DefD := ⟨("Ratio", some "__eq__"), "__eq__", "Ratio.__eq__", defArgs (inClass (topS 3) 13), defBody (inClass (topS 3) 13), defScope (inClass (topS 3) 13), [], []⟩
def d_Ratio_DltD : He.DefD := ⟨("Ratio", some "__lt__"), "__lt__", "Ratio.__lt__", defArgs (inClass (topS 3) 14), defBody (inClass (topS 3) 14), defScope (inClass (topS 3) 14), [], []⟩
def d_Ratio_DleD : He.DefD := ⟨("Ratio", some "__le__"), "__le__", "Ratio.__le__", defArgs (inClass (topS 3) 15), defBody (inClass (topS 3) 15), defScope (inClass (topS 3) 15), [], []⟩
def d_Ratio_DgtD : He.DefD := ⟨("Ratio", some "__gt__"), "__gt__", "Ratio.__gt__", defArgs (inClass (topS 3) 16), defBody (inClass (topS 3) 16), defScope (inClass (topS 3) 16), [], []⟩
def d_Ratio_DgeD : He.DefD := ⟨("Ratio", some "__ge__"), "__ge__", "Ratio.__ge__", defArgs (inClass (topS 3) 17), defBody (inClass (topS 3) 17), defScope (inClass (topS 3) 17), [], []⟩
def d_Ratio_over : He.DefD := ⟨("Ratio", some "over"), "over", "Ratio.over", defArgs (inClass (topS 3) 18), defBody (inClass (topS 3) 18), defScope (inClass (topS 3) 18), [], []⟩
def d_l_draw : He.DefD := ⟨("_law_draw", none), "_law_draw", "_law_draw", defArgs (topS 5), defBody (topS 5), defScope (topS 5), [], []⟩
def d_l_start : He.DefD := ⟨("_law_start", none), "_law_start", "_law_start", defArgs (topS 6), defBody (topS 6), defScope (topS 6), [], []⟩
def d_l_m_whole : He.DefD := ⟨("_law_m_whole", none), "_law_m_whole", "_law_m_whole", defArgs (topS 7), defBody (topS 7), defScope (topS 7), [], []⟩
def d_l_m_number : He.DefD := ⟨("_law_m_number", none), "_law_m_number", "_law_m_number", defArgs (topS 8), defBody (topS 8), defScope (topS 8), [], []⟩
def d_l_m_divisor : He.DefD := ⟨("_law_m_divisor", none), "_law_m_divisor", "_law_m_divisor", defArgs (topS 9), defBody (topS 9), defScope (topS 9), [], []⟩
def d_l_m_ratio : He.DefD := ⟨("_law_m_ratio", none), "_law_m_ratio", "_law_m_ratio", defArgs (topS 10), defBody (topS 10), defScope (topS 10), [], []⟩
def d_l_refused : He.DefD := ⟨("_law_refused", none), "_law_refused", "_law_refused", defArgs (topS 11), defBody (topS 11), defScope (topS 11), [], []⟩
def d_law : He.DefD := ⟨("law", none), "law", "law", defArgs (topS 12), defBody (topS 12), defScope (topS 12), [], []⟩
def fn : List He.DefD := [d_divisor, d_fraction, d_Ratio_DinitD, d_Ratio_DstrD, d_Ratio_DaddD, d_Ratio_DraddD, d_Ratio_DsubD, d_Ratio_DrsubD, d_Ratio_DmulD, d_Ratio_DrmulD, d_Ratio_DfloordivD, d_Ratio_DmodD, d_Ratio_DnegD, d_Ratio_DabsD, d_Ratio_DboolD, d_Ratio_DeqD, d_Ratio_DltD, d_Ratio_DleD, d_Ratio_DgtD, d_Ratio_DgeD, d_Ratio_over, d_l_draw, d_l_start, d_l_m_whole, d_l_m_number, d_l_m_divisor, d_l_m_ratio, d_l_refused, d_law]
def fa : List He.Fa := [.glo "divisor", .glo "fraction", .glo "Ratio", .glo "_law_draw", .glo "_law_start", .glo "_law_m_whole", .glo "_law_m_number", .glo "_law_m_divisor", .glo "_law_m_ratio", .glo "_law_refused", .glo "law", .free "NotImplemented", .free "ZeroDivisionError", .free "abs", .free "bool", .free "int", .free "isinstance", .free "list", .free "str", .cls "Ratio", .mkr "Ratio", .meth "Ratio" "__init__", .meth "Ratio" "__str__", .meth "Ratio" "__add__", .meth "Ratio" "__radd__", .meth "Ratio" "__sub__", .meth "Ratio" "__rsub__", .meth "Ratio" "__mul__", .meth "Ratio" "__rmul__", .meth "Ratio" "__floordiv__", .meth "Ratio" "__mod__", .meth "Ratio" "__neg__", .meth "Ratio" "__abs__", .meth "Ratio" "__bool__", .meth "Ratio" "__eq__", .meth "Ratio" "__lt__", .meth "Ratio" "__le__", .meth "Ratio" "__gt__", .meth "Ratio" "__ge__", .meth "Ratio" "over", .noat "Ratio" "top", .noat "Ratio" "bottom"]
def bs : List (PySem.W.Frag → Bool) := [PB.rvB "Ratio" "__rfloordiv__", PB.rvB "Ratio" "__rmod__", PB.ownNB "Ratio", PB.isiB "Ratio"]
structure Tx (K : PySem.W.Frag) (mg : Str → Option Value) : Prop where
  d_divisor : ∃ fd, FunD K "divisor" "divisor" (defArgs (topS 1)) (defBody (topS 1)) (defScope (topS 1)) [] [] (He.ga K "divisor") fd
  d_fraction : ∃ fd, FunD K "fraction" "fraction" (defArgs (topS 2)) (defBody (topS 2)) (defScope (topS 2)) [] [] (He.ga K "fraction") fd
  d_Ratio_DinitD : ∃ fd, FunD K "__init__" "Ratio.__init__" (defArgs (inClass (topS 3) 0)) (defBody (inClass (topS 3) 0)) (defScope (inClass (topS 3) 0)) [V.int 1] [] (He.ma K (He.ga K "Ratio") "__init__") fd
  d_Ratio_DstrD : ∃ fd, FunD K "__str__" "Ratio.__str__" (defArgs (inClass (topS 3) 1)) (defBody (inClass (topS 3) 1)) (defScope (inClass (topS 3) 1)) [] [] (He.ma K (He.ga K "Ratio") "__str__") fd
  d_Ratio_DaddD : ∃ fd, FunD K "__add__" "Ratio.__add__" (defArgs (inClass (topS 3) 2)) (defBody (inClass (topS 3) 2)) (defScope (inClass (topS 3) 2)) [] [] (He.ma K (He.ga K "Ratio") "__add__") fd
  d_Ratio_DraddD : ∃ fd, FunD K "__radd__" "Ratio.__radd__" (defArgs (inClass (topS 3) 3)) (defBody (inClass (topS 3) 3)) (defScope (inClass (topS 3) 3)) [] [] (He.ma K (He.ga K "Ratio") "__radd__") fd
  d_Ratio_DsubD : ∃ fd, FunD K "__sub__" "Ratio.__sub__" (defArgs (inClass (topS 3) 4)) (defBody (inClass (topS 3) 4)) (defScope (inClass (topS 3) 4)) [] [] (He.ma K (He.ga K "Ratio") "__sub__") fd
  d_Ratio_DrsubD : ∃ fd, FunD K "__rsub__" "Ratio.__rsub__" (defArgs (inClass (topS 3) 5)) (defBody (inClass (topS 3) 5)) (defScope (inClass (topS 3) 5)) [] [] (He.ma K (He.ga K "Ratio") "__rsub__") fd
  d_Ratio_DmulD : ∃ fd, FunD K "__mul__" "Ratio.__mul__" (defArgs (inClass (topS 3) 6)) (defBody (inClass (topS 3) 6)) (defScope (inClass (topS 3) 6)) [] [] (He.ma K (He.ga K "Ratio") "__mul__") fd
  d_Ratio_DrmulD : ∃ fd, FunD K "__rmul__" "Ratio.__rmul__" (defArgs (inClass (topS 3) 7)) (defBody (inClass (topS 3) 7)) (defScope (inClass (topS 3) 7)) [] [] (He.ma K (He.ga K "Ratio") "__rmul__") fd
  d_Ratio_DfloordivD : ∃ fd, FunD K "__floordiv__" "Ratio.__floordiv__" (defArgs (inClass (topS 3) 8)) (defBody (inClass (topS 3) 8)) (defScope (inClass (topS 3) 8)) [] [] (He.ma K (He.ga K "Ratio") "__floordiv__") fd
  d_Ratio_DmodD : ∃ fd, FunD K "__mod__" "Ratio.__mod__" (defArgs (inClass (topS 3) 9)) (defBody (inClass (topS 3) 9)) (defScope (inClass (topS 3) 9)) [] [] (He.ma K (He.ga K "Ratio") "__mod__") fd
  d_Ratio_DnegD : ∃ fd, FunD K "__neg__" "Ratio.__neg__" (defArgs (inClass (topS 3) 10)) (defBody (inClass (topS 3) 10)) (defScope (inClass (topS 3) 10)) [] [] (He.ma K (He.ga K "Ratio") "__neg__") fd
  d_Ratio_DabsD : ∃ fd, FunD K "__abs__" "Ratio.__abs__" (defArgs (inClass (topS 3) 11)) (defBody (inClass (topS 3) 11)) (defScope (inClass (topS 3) 11)) [] [] (He.ma K (He.ga K "Ratio") "__abs__") fd
  d_Ratio_DboolD : ∃ fd, FunD K "__bool__" "Ratio.__bool__" (defArgs (inClass (topS 3) 12)) (defBody (inClass (topS 3) 12)) (defScope (inClass (topS 3) 12)) [] [] (He.ma K (He.ga K "Ratio") "__bool__") fd
  d_Ratio_DeqD : ∃ fd, FunD K "__eq__" "Ratio.__eq__" (defArgs (inClass (topS 3) 13)) (defBody (inClass (topS 3) 13)) (defScope (inClass (topS 3) 13)) [] [] (He.ma K (He.ga K "Ratio") "__eq__") fd
  d_Ratio_DltD : ∃ fd, FunD K "__lt__" "Ratio.__lt__" (defArgs (inClass (topS 3) 14)) (defBody (inClass (topS 3) 14)) (defScope (inClass (topS 3) 14)) [] [] (He.ma K (He.ga K "Ratio") "__lt__") fd
  d_Ratio_DleD : ∃ fd, FunD K "__le__" "Ratio.__le__" (defArgs (inClass (topS 3) 15)) (defBody (inClass (topS 3) 15)) (defScope (inClass (topS 3) 15)) [] [] (He.ma K (He.ga K "Ratio") "__le__") fd
  d_Ratio_DgtD : ∃ fd, FunD K "__gt__" "Ratio.__gt__" (defArgs (inClass (topS 3) 16)) (defBody (inClass (topS 3) 16)) (defScope (inClass (topS 3) 16)) [] [] (He.ma K (He.ga K "Ratio") "__gt__") fd
  d_Ratio_DgeD : ∃ fd, FunD K "__ge__" "Ratio.__ge__" (defArgs (inClass (topS 3) 17)) (defBody (inClass (topS 3) 17)) (defScope (inClass (topS 3) 17)) [] [] (He.ma K (He.ga K "Ratio") "__ge__") fd
  d_Ratio_over : ∃ fd, FunD K "over" "Ratio.over" (defArgs (inClass (topS 3) 18)) (defBody (inClass (topS 3) 18)) (defScope (inClass (topS 3) 18)) [] [] (He.ma K (He.ga K "Ratio") "over") fd
  d_l_draw : ∃ fd, FunD K "_law_draw" "_law_draw" (defArgs (topS 5)) (defBody (topS 5)) (defScope (topS 5)) [] [] (He.ga K "_law_draw") fd
  d_l_start : ∃ fd, FunD K "_law_start" "_law_start" (defArgs (topS 6)) (defBody (topS 6)) (defScope (topS 6)) [] [] (He.ga K "_law_start") fd
  d_l_m_whole : ∃ fd, FunD K "_law_m_whole" "_law_m_whole" (defArgs (topS 7)) (defBody (topS 7)) (defScope (topS 7)) [] [] (He.ga K "_law_m_whole") fd
  d_l_m_number : ∃ fd, FunD K "_law_m_number" "_law_m_number" (defArgs (topS 8)) (defBody (topS 8)) (defScope (topS 8)) [] [] (He.ga K "_law_m_number") fd
  d_l_m_divisor : ∃ fd, FunD K "_law_m_divisor" "_law_m_divisor" (defArgs (topS 9)) (defBody (topS 9)) (defScope (topS 9)) [] [] (He.ga K "_law_m_divisor") fd
  d_l_m_ratio : ∃ fd, FunD K "_law_m_ratio" "_law_m_ratio" (defArgs (topS 10)) (defBody (topS 10)) (defScope (topS 10)) [] [] (He.ga K "_law_m_ratio") fd
  d_l_refused : ∃ fd, FunD K "_law_refused" "_law_refused" (defArgs (topS 11)) (defBody (topS 11)) (defScope (topS 11)) [] [] (He.ga K "_law_refused") fd
  d_law : ∃ fd, FunD K "law" "law" (defArgs (topS 12)) (defBody (topS 12)) (defScope (topS 12)) [] [] (He.ga K "law") fd
  g_divisor : mg "divisor" = some (.ref (He.ga K "divisor"))
  g_fraction : mg "fraction" = some (.ref (He.ga K "fraction"))
  g_Ratio : mg "Ratio" = some (.ref (He.ga K "Ratio"))
  g_l_draw : mg "_law_draw" = some (.ref (He.ga K "_law_draw"))
  g_l_start : mg "_law_start" = some (.ref (He.ga K "_law_start"))
  g_l_m_whole : mg "_law_m_whole" = some (.ref (He.ga K "_law_m_whole"))
  g_l_m_number : mg "_law_m_number" = some (.ref (He.ga K "_law_m_number"))
  g_l_m_divisor : mg "_law_m_divisor" = some (.ref (He.ga K "_law_m_divisor"))
  g_l_m_ratio : mg "_law_m_ratio" = some (.ref (He.ga K "_law_m_ratio"))
  g_l_refused : mg "_law_refused" = some (.ref (He.ga K "_law_refused"))
  g_law : mg "law" = some (.ref (He.ga K "law"))
  f_NotImplemented : mg "NotImplemented" = none
  f_ZeroDivisionError : mg "ZeroDivisionError" = none
  f_abs : mg "abs" = none
  f_bool : mg "bool" = none
  f_int : mg "int" = none
  f_isinstance : mg "isinstance" = none
  f_list : mg "list" = none
  f_str : mg "str" = none
  cls_Ratio : Cls K (He.ga K "Ratio")
  mk_Ratio : Mk K (He.ga K "Ratio") (He.ma K (He.ga K "Ratio") "__init__")
  meth_Ratio_DinitD : Meth K (He.ga K "Ratio") "__init__" (He.ma K (He.ga K "Ratio") "__init__")
  meth_Ratio_DstrD : Meth K (He.ga K "Ratio") "__str__" (He.ma K (He.ga K "Ratio") "__str__")
  meth_Ratio_DaddD : Meth K (He.ga K "Ratio") "__add__" (He.ma K (He.ga K "Ratio") "__add__")
  meth_Ratio_DraddD : Meth K (He.ga K "Ratio") "__radd__" (He.ma K (He.ga K "Ratio") "__radd__")
  meth_Ratio_DsubD : Meth K (He.ga K "Ratio") "__sub__" (He.ma K (He.ga K "Ratio") "__sub__")
  meth_Ratio_DrsubD : Meth K (He.ga K "Ratio") "__rsub__" (He.ma K (He.ga K "Ratio") "__rsub__")
  meth_Ratio_DmulD : Meth K (He.ga K "Ratio") "__mul__" (He.ma K (He.ga K "Ratio") "__mul__")
  meth_Ratio_DrmulD : Meth K (He.ga K "Ratio") "__rmul__" (He.ma K (He.ga K "Ratio") "__rmul__")
  meth_Ratio_DfloordivD : Meth K (He.ga K "Ratio") "__floordiv__" (He.ma K (He.ga K "Ratio") "__floordiv__")
  meth_Ratio_DmodD : Meth K (He.ga K "Ratio") "__mod__" (He.ma K (He.ga K "Ratio") "__mod__")
  meth_Ratio_DnegD : Meth K (He.ga K "Ratio") "__neg__" (He.ma K (He.ga K "Ratio") "__neg__")
  meth_Ratio_DabsD : Meth K (He.ga K "Ratio") "__abs__" (He.ma K (He.ga K "Ratio") "__abs__")
  meth_Ratio_DboolD : Meth K (He.ga K "Ratio") "__bool__" (He.ma K (He.ga K "Ratio") "__bool__")
  meth_Ratio_DeqD : Meth K (He.ga K "Ratio") "__eq__" (He.ma K (He.ga K "Ratio") "__eq__")
  meth_Ratio_DltD : Meth K (He.ga K "Ratio") "__lt__" (He.ma K (He.ga K "Ratio") "__lt__")
  meth_Ratio_DleD : Meth K (He.ga K "Ratio") "__le__" (He.ma K (He.ga K "Ratio") "__le__")
  meth_Ratio_DgtD : Meth K (He.ga K "Ratio") "__gt__" (He.ma K (He.ga K "Ratio") "__gt__")
  meth_Ratio_DgeD : Meth K (He.ga K "Ratio") "__ge__" (He.ma K (He.ga K "Ratio") "__ge__")
  meth_Ratio_over : Meth K (He.ga K "Ratio") "over" (He.ma K (He.ga K "Ratio") "over")
  noat_Ratio_top : NoAttr K (He.ga K "Ratio") "top"
  noat_Ratio_bottom : NoAttr K (He.ga K "Ratio") "bottom"
  rv_rfloordiv : PB.RvI K (He.ga K "Ratio") "__rfloordiv__"
  rv_rmod : PB.RvI K (He.ga K "Ratio") "__rmod__"
  own_Ratio : PB.OwnN K (He.ga K "Ratio")
  isi_Ratio : PB.IsiC K (He.ga K "Ratio")
theorem tx_of {K : PySem.W.Frag} {h : Heap} {mg : Str → Option Value} (X : K.In h) (G : h.Ns mainGlobals mg) (c : PB.SaysP fa fn bs K) : Tx K mg :=
  { d_divisor := c.1.def_ 0 (d := d_divisor) rfl,
    d_fraction := c.1.def_ 1 (d := d_fraction) rfl,
    d_Ratio_DinitD := c.1.def_ 2 (d := d_Ratio_DinitD) rfl,
    d_Ratio_DstrD := c.1.def_ 3 (d := d_Ratio_DstrD) rfl,
    d_Ratio_DaddD := c.1.def_ 4 (d := d_Ratio_DaddD) rfl,
    d_Ratio_DraddD := c.1.def_ 5 (d := d_Ratio_DraddD) rfl,
    d_Ratio_DsubD := c.1.def_ 6 (d := d_Ratio_DsubD) rfl,
    d_Ratio_DrsubD := c.1.def_ 7 (d := d_Ratio_DrsubD) rfl,
    d_Ratio_DmulD := c.1.def_ 8 (d := d_Ratio_DmulD) rfl,
    d_Ratio_DrmulD := c.1.def_ 9 (d := d_Ratio_DrmulD) rfl,
    d_Ratio_DfloordivD := c.1.def_ 10 (d := d_Ratio_DfloordivD) rfl,
    d_Ratio_DmodD := c.1.def_ 11 (d := d_Ratio_DmodD) rfl,
    d_Ratio_DnegD := c.1.def_ 12 (d := d_Ratio_DnegD) rfl,
    d_Ratio_DabsD := c.1.def_ 13 (d := d_Ratio_DabsD) rfl,
    d_Ratio_DboolD := c.1.def_ 14 (d := d_Ratio_DboolD) rfl,
    d_Ratio_DeqD := c.1.def_ 15 (d := d_Ratio_DeqD) rfl,
    d_Ratio_DltD := c.1.def_ 16 (d := d_Ratio_DltD) rfl,
    d_Ratio_DleD := c.1.def_ 17 (d := d_Ratio_DleD) rfl,
    d_Ratio_DgtD := c.1.def_ 18 (d := d_Ratio_DgtD) rfl,
    d_Ratio_DgeD := c.1.def_ 19 (d := d_Ratio_DgeD) rfl,
    d_Ratio_over := c.1.def_ 20 (d := d_Ratio_over) rfl,
    d_l_draw := c.1.def_ 21 (d := d_l_draw) rfl,
    d_l_start := c.1.def_ 22 (d := d_l_start) rfl,
    d_l_m_whole := c.1.def_ 23 (d := d_l_m_whole) rfl,
    d_l_m_number := c.1.def_ 24 (d := d_l_m_number) rfl,
    d_l_m_divisor := c.1.def_ 25 (d := d_l_m_divisor) rfl,
    d_l_m_ratio := c.1.def_ 26 (d := d_l_m_ratio) rfl,
    d_l_refused := c.1.def_ 27 (d := d_l_refused) rfl,
    d_law := c.1.def_ 28 (d := d_law) rfl,
    g_divisor := He.glo_ok X G (c.1.fact 0 (f := .glo "divisor") rfl),
    g_fraction := He.glo_ok X G (c.1.fact 1 (f := .glo "fraction") rfl),
    g_Ratio := He.glo_ok X G (c.1.fact 2 (f := .glo "Ratio") rfl),
    g_l_draw := He.glo_ok X G (c.1.fact 3 (f := .glo "_law_draw") rfl),
    g_l_start := He.glo_ok X G (c.1.fact 4 (f := .glo "_law_start") rfl),
    g_l_m_whole := He.glo_ok X G (c.1.fact 5 (f := .glo "_law_m_whole") rfl),
    g_l_m_number := He.glo_ok X G (c.1.fact 6 (f := .glo "_law_m_number") rfl),
    g_l_m_divisor := He.glo_ok X G (c.1.fact 7 (f := .glo "_law_m_divisor") rfl),
    g_l_m_ratio := He.glo_ok X G (c.1.fact 8 (f := .glo "_law_m_ratio") rfl),
    g_l_refused := He.glo_ok X G (c.1.fact 9 (f := .glo "_law_refused") rfl),
    g_law := He.glo_ok X G (c.1.fact 10 (f := .glo "law") rfl),
    f_NotImplemented := He.free_ok X G (c.1.fact 11 (f := .free "NotImplemented") rfl),
    f_ZeroDivisionError := He.free_ok X G (c.1.fact 12 (f := .free "ZeroDivisionError") rfl),
    f_abs := He.free_ok X G (c.1.fact 13 (f := .free "abs") rfl),
    f_bool := He.free_ok X G (c.1.fact 14 (f := .free "bool") rfl),
    f_int := He.free_ok X G (c.1.fact 15 (f := .free "int") rfl),
    f_isinstance := He.free_ok X G (c.1.fact 16 (f := .free "isinstance") rfl),
    f_list := He.free_ok X G (c.1.fact 17 (f := .free "list") rfl),
    f_str := He.free_ok X G (c.1.fact 18 (f := .free "str") rfl),
    cls_Ratio := He.cls_ok (c.1.fact 19 (f := .cls "Ratio") rfl),
    mk_Ratio := He.mkr_ok (c.1.fact 20 (f := .mkr "Ratio") rfl),
    meth_Ratio_DinitD := He.meth_ok (c.1.fact 21 (f := .meth "Ratio" "__init__") rfl),
    meth_Ratio_DstrD := He.meth_ok (c.1.fact 22 (f := .meth "Ratio" "__str__") rfl),
    meth_Ratio_DaddD := He.meth_ok (c.1.fact 23 (f := .meth "Ratio" "__add__") rfl),
    meth_Ratio_DraddD := He.meth_ok (c.1.fact 24 (f := .meth "Ratio" "__radd__") rfl),
    meth_Ratio_DsubD := He.meth_ok (c.1.fact 25 (f := .meth "Ratio" "__sub__") rfl),
    meth_Ratio_DrsubD := He.meth_ok (c.1.fact 26 (f := .meth "Ratio" "__rsub__") rfl),
    meth_Ratio_DmulD := He.meth_ok (c.1.fact 27 (f := .meth "Ratio" "__mul__") rfl),
    meth_Ratio_DrmulD := He.meth_ok (c.1.fact 28 (f := .meth "Ratio" "__rmul__") rfl),
    meth_Ratio_DfloordivD := He.meth_ok (c.1.fact 29 (f := .meth "Ratio" "__floordiv__") rfl),
    meth_Ratio_DmodD := He.meth_ok (c.1.fact 30 (f := .meth "Ratio" "__mod__") rfl),
    meth_Ratio_DnegD := He.meth_ok (c.1.fact 31 (f := .meth "Ratio" "__neg__") rfl),
    meth_Ratio_DabsD := He.meth_ok (c.1.fact 32 (f := .meth "Ratio" "__abs__") rfl),
    meth_Ratio_DboolD := He.meth_ok (c.1.fact 33 (f := .meth "Ratio" "__bool__") rfl),
    meth_Ratio_DeqD := He.meth_ok (c.1.fact 34 (f := .meth "Ratio" "__eq__") rfl),
    meth_Ratio_DltD := He.meth_ok (c.1.fact 35 (f := .meth "Ratio" "__lt__") rfl),
    meth_Ratio_DleD := He.meth_ok (c.1.fact 36 (f := .meth "Ratio" "__le__") rfl),
    meth_Ratio_DgtD := He.meth_ok (c.1.fact 37 (f := .meth "Ratio" "__gt__") rfl),
    meth_Ratio_DgeD := He.meth_ok (c.1.fact 38 (f := .meth "Ratio" "__ge__") rfl),
    meth_Ratio_over := He.meth_ok (c.1.fact 39 (f := .meth "Ratio" "over") rfl),
    noat_Ratio_top := He.noat_ok (c.1.fact 40 (f := .noat "Ratio" "top") rfl),
    noat_Ratio_bottom := He.noat_ok (c.1.fact 41 (f := .noat "Ratio" "bottom") rfl),
    rv_rfloordiv := PB.rv_of (c.bool 0),
    rv_rmod := PB.rv_of (c.bool 1),
    own_Ratio := PB.ownN_of (c.bool 2),
    isi_Ratio := PB.isi_of (c.bool 3) }
theorem sc_divisor : FnScope ["first", "second"] ["first", "second"] (defScope (topS 1)) := ⟨rfl, rfl, rfl, by decide +kernel, rfl, by decide +kernel, by decide +kernel⟩
theorem sc_fraction : FnScope ["value"] ["value"] (defScope (topS 2)) := ⟨rfl, rfl, rfl, by decide +kernel, rfl, by decide +kernel, by decide +kernel⟩
theorem sc_Ratio_DinitD : FnScope ["self", "top", "bottom", "common"] ["self", "top", "bottom"] (defScope (inClass (topS 3) 0)) := ⟨rfl, rfl, rfl, by decide +kernel, rfl, by decide +kernel, by decide +kernel⟩
theorem sc_Ratio_DstrD : FnScope ["self"] ["self"] (defScope (inClass (topS 3) 1)) := ⟨rfl, rfl, rfl, by decide +kernel, rfl, by decide +kernel, by decide +kernel⟩
theorem sc_Ratio_DaddD : FnScope ["self", "other", "top", "bottom"] ["self", "other"] (defScope (inClass (topS 3) 2)) := ⟨rfl, rfl, rfl, by decide +kernel, rfl, by decide +kernel, by decide +kernel⟩
theorem sc_Ratio_DraddD : FnScope ["self", "other"] ["self", "other"] (defScope (inClass (topS 3) 3)) := ⟨rfl, rfl, rfl, by decide +kernel, rfl, by decide +kernel, by decide +kernel⟩
theorem sc_Ratio_DsubD : FnScope ["self", "other", "top", "bottom"] ["self", "other"] (defScope (inClass (topS 3) 4)) := ⟨rfl, rfl, rfl, by decide +kernel, rfl, by decide +kernel, by decide +kernel⟩
theorem sc_Ratio_DrsubD : FnScope ["self", "other"] ["self", "other"] (defScope (inClass (topS 3) 5)) := ⟨rfl, rfl, rfl, by decide +kernel, rfl, by decide +kernel, by decide +kernel⟩
theorem sc_Ratio_DmulD : FnScope ["self", "other", "top", "bottom"] ["self", "other"] (defScope (inClass (topS 3) 6)) := ⟨rfl, rfl, rfl, by decide +kernel, rfl, by decide +kernel, by decide +kernel⟩
theorem sc_Ratio_DrmulD : FnScope ["self", "other"] ["self", "other"] (defScope (inClass (topS 3) 7)) := ⟨rfl, rfl, rfl, by decide +kernel, rfl, by decide +kernel, by decide +kernel⟩
theorem sc_Ratio_DfloordivD : FnScope ["self", "other", "top", "bottom"] ["self", "other"] (defScope (inClass (topS 3) 8)) := ⟨rfl, rfl, rfl, by decide +kernel, rfl, by decide +kernel, by decide +kernel⟩
theorem sc_Ratio_DmodD : FnScope ["self", "other"] ["self", "other"] (defScope (inClass (topS 3) 9)) := ⟨rfl, rfl, rfl, by decide +kernel, rfl, by decide +kernel, by decide +kernel⟩
theorem sc_Ratio_DnegD : FnScope ["self"] ["self"] (defScope (inClass (topS 3) 10)) := ⟨rfl, rfl, rfl, by decide +kernel, rfl, by decide +kernel, by decide +kernel⟩
theorem sc_Ratio_DabsD : FnScope ["self"] ["self"] (defScope (inClass (topS 3) 11)) := ⟨rfl, rfl, rfl, by decide +kernel, rfl, by decide +kernel, by decide +kernel⟩
theorem sc_Ratio_DboolD : FnScope ["self"] ["self"] (defScope (inClass (topS 3) 12)) := ⟨rfl, rfl, rfl, by decide +kernel, rfl, by decide +kernel, by decide +kernel⟩
theorem sc_Ratio_DeqD : FnScope ["self", "other", "top", "bottom"] ["self", "other"] (defScope (inClass (topS 3) 13)) := ⟨rfl, rfl, rfl, by decide +kernel, rfl, by decide +kernel, by decide +kernel⟩
theorem sc_Ratio_DltD : FnScope ["self", "other", "top", "bottom"] ["self", "other"] (defScope (inClass (topS 3) 14)) := ⟨rfl, rfl, rfl, by decide +kernel, rfl, by decide +kernel, by decide +kernel⟩
theorem sc_Ratio_DleD : FnScope ["self", "other", "top", "bottom"] ["self", "other"] (defScope (inClass (topS 3) 15)) := ⟨rfl, rfl, rfl, by decide +kernel, rfl, by decide +kernel, by decide +kernel⟩
theorem sc_Ratio_DgtD : FnScope ["self", "other", "top", "bottom"] ["self", "other"] (defScope (inClass (topS 3) 16)) := ⟨rfl, rfl, rfl, by decide +kernel, rfl, by decide +kernel, by decide +kernel⟩
theorem sc_Ratio_DgeD : FnScope ["self", "other", "top", "bottom"] ["self", "other"] (defScope (inClass (topS 3) 17)) := ⟨rfl, rfl, rfl, by decide +kernel, rfl, by decide +kernel, by decide +kernel⟩
theorem sc_Ratio_over : FnScope ["self", "other", "top", "bottom"] ["self", "other"] (defScope (inClass (topS 3) 18)) := ⟨rfl, rfl, rfl, by decide +kernel, rfl, by decide +kernel, by decide +kernel⟩
theorem sc_l_draw : FnScope ["_law_stream", "_law_many", "_law_digit", "_law_mixed"] ["_law_stream", "_law_many"] (defScope (topS 5)) := ⟨rfl, rfl, rfl, by decide +kernel, rfl, by decide +kernel, by decide +kernel⟩
theorem sc_l_start : FnScope ["_law_script"] ["_law_script"] (defScope (topS 6)) := ⟨rfl, rfl, rfl, by decide +kernel, rfl, by decide +kernel, by decide +kernel⟩
theorem sc_l_m_whole : FnScope ["_law_thing"] ["_law_thing"] (defScope (topS 7)) := ⟨rfl, rfl, rfl, by decide +kernel, rfl, by decide +kernel, by decide +kernel⟩
theorem sc_l_m_number : FnScope ["_law_stream", "_law_kind", "_law_size"] ["_law_stream"] (defScope (topS 8)) := ⟨rfl, rfl, rfl, by decide +kernel, rfl, by decide +kernel, by decide +kernel⟩
theorem sc_l_m_divisor : FnScope ["_law_one", "_law_other"] ["_law_one", "_law_other"] (defScope (topS 9)) := ⟨rfl, rfl, rfl, by decide +kernel, rfl, by decide +kernel, by decide +kernel⟩
theorem sc_l_m_ratio : FnScope ["_law_found", "_law_high", "_law_low"] ["_law_found", "_law_high", "_law_low"] (defScope (topS 10)) := ⟨rfl, rfl, rfl, by decide +kernel, rfl, by decide +kernel, by decide +kernel⟩
theorem sc_l_refused : FnScope ["_law_one", "_law_zero", "_law_way", "_law_found"] ["_law_one", "_law_zero", "_law_way"] (defScope (topS 11)) := ⟨rfl, rfl, rfl, by decide +kernel, rfl, by decide +kernel, by decide +kernel⟩
theorem sc_law : FnScope ["_law_script", "_law_stream", "_law_high", "_law_low", "_law_other", "_law_under", "_law_one", "_law_by", "_law_way", "_law_due", "_law_found"] ["_law_script"] (defScope (topS 12)) := ⟨rfl, rfl, rfl, by decide +kernel, rfl, by decide +kernel, by decide +kernel⟩
end Lw
namespace Lw
open PySem PySem.Spec PyProof.Rows L2 PB
theorem ok_l_draw {P : Program} {w : World} {K : PySem.W.Frag} {mg : Str → Option Value} {base : Heap} (T : Tx K mg) : OkF P w K mg base CX0 1 "_law_draw" ["_law_stream", "_law_many"] [] (spDraw) := by
  obtain ⟨fd, F⟩ := T.d_l_draw
  refine ⟨fd, [], F.ok sc_l_draw (fun vs H Q E h => ?len) (fun cdv A outer s H vs Q E hr h => ?body), T.g_l_draw, F.kp, F.bindsN fun _ _ _ _ _ _ us hl => match us, hl with | [_, _], _ => rfl, .nil⟩
  case len =>
    obtain ⟨S, l, n, many, rfl, _⟩ := h
    rfl
  case body =>
    obtain ⟨S, l, n, many, rfl, hm0, hmb, hn, ⟨hne, rest, c, m, q0, hq, hS, hl, hlen, hm1, hm2⟩, q⟩ := h
    have hne' : l ≠ S := Ne.symm hne
    refine ⟨_, PSs.nox (pss_cons (ps_asg (pe_op op_add (pe_ix ix_list (pv 0) pe_int (fun _ _ => rfl)) pe_int) (pg_sub (pv 0) pe_int set_list))
      (C8.pss_cut (ps_if (PW.pt (pw_and (pt_cmpR op_eq (pe_ix ix_list (pv 0) pe_int (fun _ _ => rfl)) pe_int (nomark _)) (pw_and1 (pt_cmpR (op_neD (hr64 hr)) (pe_ix ix_list (pv 0) pe_int (fun _ _ => rfl)) (pe_lst pa_nil) (nomark _))))) (pss_cons (ps_asg (pe_bm PySem.F.plainAttrs_list PySem.F.slot_list_pop PySem.F.type_list_pop mt_popAt (pe_ix ix_list (pv 0) pe_int (fun _ _ => rfl)) (pa_cons pe_int pa_nil)) (pg_sub (pv 0) pe_int set_list))
      (pss_one (ps_if (pt_cmpR op_lt (pe_ix ix_list (pv 0) pe_int (fun _ _ => rfl)) (pe_op op_pow pe_int pe_int) (nomark _)) (pss_cons (ps_asg (pe_op op_mod (pe_callTy call_int1 (by rfl) T.f_int (by decide +kernel) (pa_cons (pe_op op_add (pe_op op_add (pe_op op_mulW (pe_ix ix_list (pv 0) pe_int (fun _ _ => rfl)) pe_int) (pe_ix ix_list (pv 0) pe_int (fun _ _ => rfl))) pe_int) pa_nil)) pe_int) (pg_sub (pv 0) pe_int set_list))
      (pss_one (ps_asg pe_int (pg_sub (pv 0) pe_int set_list)))) pss_nil))) pss_nil)
      (pss_cons (ps_if (pt_cmpR op_gt (pe_ix ix_list (pv 0) pe_int (fun _ _ => rfl)) pe_int (nomark _)) (pss_cons (ps_set (i := 2) sc_l_draw.nd rfl (Or.inl rfl) (pe_op op_mod (pe_callTy call_int1 (by rfl) T.f_int (by decide +kernel) (pa_cons (pe_ix ix_list (pv 0) pe_int (fun _ _ => rfl)) pa_nil)) (pv 1)))
      (pss_cons (ps_asg (pe_op PB.op_fdivG (pe_ix ix_list (pv 0) pe_int (fun _ _ => rfl)) (pv 1)) (pg_sub (pv 0) pe_int set_list))
      (pss_one (ps_ret (pv 2))))) pss_nil)
      (pss_cons (ps_set (i := 3) sc_l_draw.nd rfl (Or.inl rfl) (pe_op op_mod (pe_op op_pow (pe_op op_add (pe_op op_add (pe_ix ix_list (pv 0) pe_int (fun _ _ => rfl)) (pe_op op_mulW pe_int (pe_ix ix_list (pv 0) pe_int (fun _ _ => rfl)))) pe_int) pe_int) pe_int))
      (pss_one (ps_ret (pe_op op_mod (pe_op op_mod (pe_op op_pow (pe_op op_add (pe_op op_add (pe_op op_mulW (pv 3) pe_int) (pe_op op_mulW (pe_op op_mulW pe_int (pe_ix ix_list (pv 0) pe_int (fun _ _ => rfl))) (pe_ix ix_list (pv 0) pe_int (fun _ _ => rfl)))) pe_int) pe_int) pe_int) (pv 1)))))))), ?_⟩
    try dsimp only [cxOf, Cx.nox, Cx.wish]
    rw [show ∀ z0 z1 : V, L2.start ["_law_stream", "_law_many", "_law_digit", "_law_mixed"] [z0, z1] = [some z0, some z1, none, none] from fun _ _ => rfl]
    walk_at "pb"
    refine i_ixL (SqL.of hS) rfl ?_
    walk_at "pb"
    refine i_setL hS rfl fun H1 k1 hS => ?_
    replace hl := k1.at_ _ _ (by simpa using hne') hl
    replace k1 : Keep [S, l] H H1 := k1.mono (by simp)
    replace hS : H1 S = some (.lst [.ref l, .int c, .int ((q0 + 1 : Nat) : Int), .int m]) := hS
    refine i_cut (fun σ' H' => σ' = [some (.ref S), some (.int many), none, none] ∧ Keep [S, l] H H' ∧ ∃ (rest : List Int) (c m : Int), H' S = some (.lst [.ref l, .int c, .int ((q0 + 1 : Nat) : Int), .int m]) ∧ H' l = some (.lst (rest.map V.int)) ∧ rest.length ≤ 63 ∧ 0 ≤ m ∧ m < 2147483647) ?_ ?_
    · walk_at "pb"
      refine i_ixL (SqL.of hS) rfl ?_
      walk_at "pb"
      refine b_eqI (fun hc => ?_) (fun hc => ?_)
      · subst hc
        walk_at "pb"
        refine i_ixL (SqL.of hS) rfl ?_
        walk_at "pb"
        refine i_lstR (by walk_at "sz") fun p H2 hp k2 hp2 => ?_
        replace hl := k2.at_ _ _ (by simp) hl
        replace hS := k2.at_ _ _ (by simp) hS
        replace k2 : Keep [S, l] H H2 := k1.trans k2.same
        refine i_neNil hl hp2 ?_
        walk_at "pb"
        refine b_nbool (fun he => ?_) (fun he => ?_)
        · obtain ⟨x, rest, rfl⟩ : ∃ x r, rest = x :: r := by
            cases rest with
            | nil => simp at he
            | cons x r => exact ⟨x, r, rfl⟩
          walk_at "pb"
          refine i_ixL (SqL.of hS) rfl ?_
          refine i_tyL (SqL.of hl) ?_
          walk_at "pb"
          refine i_pop0 hl fun H3 k3 hl => ?_
          replace hS := k3.at_ S _ (by simpa using hne) hS
          replace k3 : Keep [S, l] H H3 := k2.trans (k3.mono (by simp))
          walk_at "pb"
          refine i_setL hS rfl fun H4 k4 hS => ?_
          replace hl := k4.at_ _ _ (by simpa using hne') hl
          replace k4 : Keep [S, l] H H4 := k3.trans (k4.mono (by simp))
          replace hS : H4 S = some (.lst [.ref l, .int x, .int ((q0 + 1 : Nat) : Int), .int m]) := hS
          have hlen' : rest.length ≤ 63 := by rw [List.length_cons] at hlen; omega
          walk_at "pb"
          refine i_ixL (SqL.of hS) rfl ?_
          walk_at "pb"
          refine i_rI ⟨by decide, by decide, by decide⟩ ?_
          walk_at "pb"
          refine b_dec (fun hx => ?_) (fun hx => ?_)
          · walk_at "pb"
            refine i_ixL (SqL.of hS) rfl ?_
            walk_at "pb"
            refine i_rI (mulW_small (by rw [p64]; omega) (by decide)) ?_
            walk_at "pb"
            refine i_ixL (SqL.of hS) rfl ?_
            walk_at "pb"
            refine i_rI (by decide) ?_
            walk_at "pb"
            refine i_setL hS rfl fun H5 k5 hS => ?_
            replace hl := k5.at_ _ _ (by simpa using hne') hl
            replace k5 : Keep [S, l] H H5 := k4.trans (k5.mono (by simp))
            walk_at "pb"
            refine i_setL hS rfl fun H6 k6 hS => ?_
            replace hl := k6.at_ _ _ (by simpa using hne') hl
            replace k6 : Keep [S, l] H H6 := k5.trans (k6.mono (by simp))
            exact ⟨rfl, k6, rest, 0, _, hS, hl, hlen', Int.emod_nonneg _ (by decide), Int.emod_lt_of_pos _ (by decide)⟩
          · walk_at "pb"
            exact ⟨rfl, k4, rest, x, m, hS, hl, hlen', hm1, hm2⟩
        · walk_at "pb"
          exact ⟨rfl, k2, rest, _, m, hS, hl, hlen, hm1, hm2⟩
      · walk_at "pb"
        exact ⟨rfl, k1, rest, _, m, hS, hl, hlen, hm1, hm2⟩
    · rintro σ' H' ⟨rfl, k, rest, c, m, hS, hl, hlen, hm1, hm2⟩
      walk_at "pb"
      refine i_ixL (SqL.of hS) rfl ?_
      walk_at "pb"
      refine b_dec (fun hc => ?_) (fun hc => ?_)
      · walk_at "pb"
        refine i_ixL (SqL.of hS) rfl ?_
        walk_at "pb"
        refine i_rI hm0 ?_
        walk_at "pb"
        refine i_ixL (SqL.of hS) rfl ?_
        walk_at "pb"
        refine i_rI ⟨by omega, hmb⟩ ?_
        walk_at "pb"
        refine i_setL hS rfl fun H1 k1 hS => ?_
        replace hl := k1.at_ _ _ (by simpa using hne') hl
        replace k1 : Keep [S, l] H H1 := k.trans (k1.mono (by simp))
        walk_at "pb"
        exact q _ _ k1 ⟨hne, rest, _, m, q0 + 1, by omega, hS, hl, hlen, hm1, hm2⟩ (Int.emod_nonneg _ (by omega)) (Int.emod_lt_of_pos _ hm0)
      · walk_at "pb"
        refine i_ixL (SqL.of hS) rfl ?_
        walk_at "pb"
        refine i_ixL (SqL.of hS) rfl ?_
        refine i_rI (mulW_small (by decide) (by rw [p64]; omega)) ?_
        walk_at "pb"
        refine i_rI ⟨by decide, by decide, by rw [p64]; omega⟩ ?_
        walk_at "pb"
        refine i_rI (by decide) ?_
        generalize hg : (m + 104729 * ((q0 + 1 : Nat) : Int) + 17) ^ (Int.toNat 5) % 2147483629 = g
        have hg1 : 0 ≤ g := by rw [← hg]; exact Int.emod_nonneg _ (by decide)
        have hg2 : g < 2147483629 := by rw [← hg]; exact Int.emod_lt_of_pos _ (by decide)
        walk_at "pb"
        refine i_rI (mulW_small (by rw [p64]; omega) (by decide)) ?_
        walk_at "pb"
        refine i_ixL (SqL.of hS) rfl ?_
        refine i_rI (mulW_small (by decide) (by rw [p64]; omega)) ?_
        walk_at "pb"
        refine i_ixL (SqL.of hS) rfl ?_
        refine i_rI (mulW_small (by rw [p64]; omega) (by rw [p64]; omega)) ?_
        walk_at "pb"
        have hb : (40503 * ((q0 + 1 : Nat) : Int)) * ((q0 + 1 : Nat) : Int) ≤ 40503 * 10000001 * 10000001 := Int.mul_le_mul (by omega) (by omega) (by omega) (by omega)
        have hb0 : 0 ≤ (40503 * ((q0 + 1 : Nat) : Int)) * ((q0 + 1 : Nat) : Int) := Int.mul_nonneg (by omega) (by omega)
        generalize (40503 * ((q0 + 1 : Nat) : Int)) * ((q0 + 1 : Nat) : Int) = b at hb hb0
        refine i_rI ⟨by decide, by decide, by rw [p64]; omega⟩ ?_
        walk_at "pb"
        refine i_rI (by decide) ?_
        walk_at "pb"
        refine i_rI hm0 ?_
        exact q _ _ k ⟨hne, rest, c, m, q0 + 1, by omega, hS, hl, hlen, hm1, hm2⟩ (Int.emod_nonneg _ (by omega)) (Int.emod_lt_of_pos _ hm0)
def spGcd : Sp := fun vs H Q _ => ∃ a b : Int, vs = [.int a, .int b] ∧ Q (.int (Int.gcd a b : Nat)) H
theorem gcd_step (a b : Nat) (hb : b ≠ 0) : Nat.gcd b (a % b) = Nat.gcd a b := by
  rw [Nat.gcd_comm a b, Nat.gcd_rec b a, Nat.gcd_comm]
theorem ok_divisor {P : Program} {w : World} {K : PySem.W.Frag} {mg : Str → Option Value} {base : Heap} (T : Tx K mg) : OkF P w K mg base CX0 1 "divisor" ["first", "second"] [] (spGcd) := by
  obtain ⟨fd, F⟩ := T.d_divisor
  refine ⟨fd, [], F.ok sc_divisor (fun vs H Q E h => ?len) (fun cdv A outer s H vs Q E hr h => ?body), T.g_divisor, F.kp, F.bindsN fun _ _ _ _ _ _ us hl => match us, hl with | [_, _], _ => rfl, .nil⟩
  case len =>
    obtain ⟨a, b, rfl, _⟩ := h
    rfl
  case body =>
    obtain ⟨a, b, rfl, q⟩ := h
    refine ⟨_, PSs.nox (pss_cons (ps_par (i := 0) (j := 1) (by rfl) sc_divisor.nd rfl rfl (by decide) rfl rfl (pa_cons (pe_callB call_abs (by rfl) T.f_abs (by decide +kernel) (pa_cons (pv 0) pa_nil)) (pa_cons (pe_callB call_abs (by rfl) T.f_abs (by decide +kernel) (pa_cons (pv 1) pa_nil)) pa_nil)) (by rfl))
      (pss_cons (ps_while PassesOwn.never (pt_cmpR op_ne (pv 1) pe_int (nomark _)) (pss_one (ps_par (i := 0) (j := 1) (by rfl) sc_divisor.nd rfl rfl (by decide) rfl rfl (pa_cons (pv 1) (pa_cons (pe_op op_mod (pe_callTy call_int1 (by rfl) T.f_int (by decide +kernel) (pa_cons (pv 0) pa_nil)) (pv 1)) pa_nil)) (by rfl))))
      (pss_one (ps_ret (pv 0))))), ?_⟩
    try dsimp only [cxOf, Cx.nox, Cx.wish]
    rw [show ∀ z0 z1 : V, L2.start ["first", "second"] [z0, z1] = [some z0, some z1] from fun _ _ => rfl]
    walk_at "pb"
    rw [abs_e, abs_e]
    refine ⟨fun m σ' H' => ∃ x y : Nat, σ' = [some (.int x), some (.int y)] ∧ m = y ∧ Nat.gcd x y = Int.gcd a b ∧ H' = H, ⟨_, a.natAbs, b.natAbs, rfl, rfl, rfl, rfl⟩, ?_⟩
    rintro m σ' H' ⟨x, y, rfl, rfl, hg, rfl⟩
    walk_at "pb"
    refine b_neI (fun hy => ?_) (fun hy => ?_)
    · refine ⟨fun σ' H'' => ∃ m', m' < m ∧ ∃ x y : Nat, σ' = [some (.int x), some (.int y)] ∧ m' = y ∧ Nat.gcd x y = Int.gcd a b ∧ H'' = H', fun _ _ z => z, ?_⟩
      walk_at "pb"
      have hm : 0 < m := by omega
      refine i_rI (by omega) ?_
      walk_at "pb"
      refine ⟨x % m, Nat.mod_lt _ hm, m, x % m, ?_, rfl, by rw [gcd_step x m (by omega)]; exact hg, rfl⟩
      simp
    · walk_at "pb"
      have hm : m = 0 := by omega
      subst hm
      rw [Nat.gcd_zero_right] at hg
      rw [hg]
      exact q
theorem ok_l_m_divisor {P : Program} {w : World} {K : PySem.W.Frag} {mg : Str → Option Value} {base : Heap} (T : Tx K mg) : OkF P w K mg base CX0 1 "_law_m_divisor" ["_law_one", "_law_other"] [] (spGcd) := by
  obtain ⟨fd, F⟩ := T.d_l_m_divisor
  refine ⟨fd, [], F.ok sc_l_m_divisor (fun vs H Q E h => ?len) (fun cdv A outer s H vs Q E hr h => ?body), T.g_l_m_divisor, F.kp, F.bindsN fun _ _ _ _ _ _ us hl => match us, hl with | [_, _], _ => rfl, .nil⟩
  case len =>
    obtain ⟨a, b, rfl, _⟩ := h
    rfl
  case body =>
    obtain ⟨a, b, rfl, q⟩ := h
    refine ⟨_, PSs.nox (pss_cons (ps_par (i := 0) (j := 1) (by rfl) sc_l_m_divisor.nd rfl rfl (by decide) rfl rfl (pa_cons (pe_callB call_abs (by rfl) T.f_abs (by decide +kernel) (pa_cons (pv 0) pa_nil)) (pa_cons (pe_callB call_abs (by rfl) T.f_abs (by decide +kernel) (pa_cons (pv 1) pa_nil)) pa_nil)) (by rfl))
      (pss_cons (ps_while PassesOwn.never (pt_cmpR op_gt (pv 1) pe_int (nomark _)) (pss_one (ps_par (i := 0) (j := 1) (by rfl) sc_l_m_divisor.nd rfl rfl (by decide) rfl rfl (pa_cons (pv 1) (pa_cons (pe_op op_mod (pe_callTy call_int1 (by rfl) T.f_int (by decide +kernel) (pa_cons (pv 0) pa_nil)) (pv 1)) pa_nil)) (by rfl))))
      (pss_one (ps_ret (pv 0))))), ?_⟩
    try dsimp only [cxOf, Cx.nox, Cx.wish]
    rw [show ∀ z0 z1 : V, L2.start ["_law_one", "_law_other"] [z0, z1] = [some z0, some z1] from fun _ _ => rfl]
    walk_at "pb"
    rw [abs_e, abs_e]
    refine ⟨fun m σ' H' => ∃ x y : Nat, σ' = [some (.int x), some (.int y)] ∧ m = y ∧ Nat.gcd x y = Int.gcd a b ∧ H' = H, ⟨_, a.natAbs, b.natAbs, rfl, rfl, rfl, rfl⟩, ?_⟩
    rintro m σ' H' ⟨x, y, rfl, rfl, hg, rfl⟩
    walk_at "pb"
    refine b_dec (fun hy => ?_) (fun hy => ?_)
    · refine ⟨fun σ' H'' => ∃ m', m' < m ∧ ∃ x y : Nat, σ' = [some (.int x), some (.int y)] ∧ m' = y ∧ Nat.gcd x y = Int.gcd a b ∧ H'' = H', fun _ _ z => z, ?_⟩
      walk_at "pb"
      have hm : 0 < m := by omega
      refine i_rI (by omega) ?_
      walk_at "pb"
      refine ⟨x % m, Nat.mod_lt _ hm, m, x % m, ?_, rfl, by rw [gcd_step x m (by omega)]; exact hg, rfl⟩
      simp
    · walk_at "pb"
      have hm : m = 0 := by omega
      subst hm
      rw [Nat.gcd_zero_right] at hg
      rw [hg]
      exact q
abbrev rf (t b : Int) : List (Str × V) := [("top", .int t), ("bottom", .int b)]
def IsR (K : PySem.W.Frag) (H : Hp) (v : V) (t b : Int) : Prop := ∃ a dx, v = .ref a ∧ H a = some (.ins (He.ga K "Ratio") dx (rf t b))
theorem IsR.keep {K : PySem.W.Frag} {H H' : Hp} {v : V} {t b : Int} (h : IsR K H v t b) (k : Keep [] H H') : IsR K H' v t b := let ⟨a, dx, e, ha⟩ := h; ⟨a, dx, e, k.at_ _ _ (by simp) ha⟩
def FrV (K : PySem.W.Frag) (H : Hp) (v : V) (t b : Int) : Prop := IsR K H v t b ∨ (v = .int t ∧ b = 1)
theorem FrV.keep {K : PySem.W.Frag} {H H' : Hp} {v : V} {t b : Int} (h : FrV K H v t b) (k : Keep [] H H') : FrV K H' v t b := h.elim (fun h => .inl (h.keep k)) .inr
def spFraction (K : PySem.W.Frag) : Sp := fun vs H Q _ => ∃ v t b, vs = [v] ∧ FrV K H v t b ∧ ∀ p H', Keep [] H H' → H' p = some (.tup [.int t, .int b]) → Q (.ref p) H'
theorem ok_fraction {P : Program} {w : World} {K : PySem.W.Frag} {mg : Str → Option Value} {base : Heap} (T : Tx K mg) : OkF P w K mg base CX0 1 "fraction" ["value"] [] ((spFraction K)) := by
  obtain ⟨fd, F⟩ := T.d_fraction
  refine ⟨fd, [], F.ok sc_fraction (fun vs H Q E h => ?len) (fun cdv A outer s H vs Q E hr h => ?body), T.g_fraction, F.kp, F.bindsN fun _ _ _ _ _ _ us hl => match us, hl with | [_], _ => rfl, .nil⟩
  case len =>
    obtain ⟨v, t, b, rfl, _⟩ := h
    rfl
  case body =>
    obtain ⟨v, t, b, rfl, hv, q⟩ := h
    refine ⟨_, PSs.nox (pss_cons (ps_if (pt_val (pe_callB call_isi (by rfl) T.f_isinstance (by decide +kernel) (pa_cons (pv 0) (pa_cons (pe_glob (v := .ref (He.ga K "Ratio")) (by rfl) T.g_Ratio rfl) pa_nil)))) (pss_one (ps_ret (pe_tup (pa_cons (pe_fld (pv 0) rfl) (pa_cons (pe_fld (pv 0) rfl) pa_nil))))) pss_nil)
      (pss_one (ps_ret (pe_tup (pa_cons (pv 0) (pa_cons pe_int pa_nil)))))), ?_⟩
    try dsimp only [cxOf, Cx.nox, Cx.wish]
    rw [show ∀ z0 : V, L2.start ["value"] [z0] = [some z0] from fun _ => rfl]
    walk_at "pb"
    rcases hv with ⟨a, dx, rfl, ha⟩ | ⟨rfl, rfl⟩
    · refine i_isi_own T.isi_Ratio ha ?_
      walk_at "pb"
      refine i_fldR ha T.cls_Ratio T.noat_Ratio_top rfl ?_
      walk_at "pb"
      refine i_fldR ha T.cls_Ratio T.noat_Ratio_bottom rfl ?_
      walk_at "pb"
      exact i_tupR (by walk_at "sz") fun p H' _ k hp => q p H' k hp
    · refine i_isi_intOwn T.isi_Ratio ?_
      walk_at "pb"
      exact i_tupR (by walk_at "sz") fun p H' _ k hp => q p H' k hp
/-- t over b is p over q in lowest terms -/
structure Red (p q t b : Int) : Prop where
  pos : 0 < b
  low : Int.gcd t b = 1
  eq : t * q = p * b
theorem Red.sb {p q t b : Int} (h : Red p q t b) (hq : q ≠ 0) : b.natAbs ≤ q.natAbs := by
  have e : t.natAbs * q.natAbs = p.natAbs * b.natAbs := by rw [← Int.natAbs_mul, ← Int.natAbs_mul, h.eq]
  have c : Nat.Coprime b.natAbs t.natAbs := by rw [Nat.coprime_comm]; exact h.low
  exact Nat.le_of_dvd (by omega) (c.dvd_of_dvd_mul_left ⟨p.natAbs, by rw [e, Nat.mul_comm]⟩)
theorem Red.st {p q t b : Int} (h : Red p q t b) (hq : q ≠ 0) : t.natAbs ≤ p.natAbs := by
  have e : t.natAbs * q.natAbs = p.natAbs * b.natAbs := by rw [← Int.natAbs_mul, ← Int.natAbs_mul, h.eq]
  rcases Nat.eq_zero_or_pos p.natAbs with hp | hp
  · rw [hp, Nat.zero_mul] at e
    rcases Nat.mul_eq_zero.mp e with z | z <;> omega
  · have c : Nat.Coprime t.natAbs b.natAbs := h.low
    exact Nat.le_of_dvd hp (c.dvd_of_dvd_mul_right ⟨q.natAbs, e.symm⟩)
theorem red_of {p q c : Int} (hq : q ≠ 0) (hc : c.natAbs = Int.gcd p q) (hs : (q < 0 → c ≤ 0) ∧ (¬ q < 0 → 0 ≤ c)) : c ≠ 0 ∧ Red p q (p.fdiv c) (q.fdiv c) := by
  have hg : 0 < Int.gcd p q := Int.gcd_pos_of_ne_zero_right p hq
  have hc0 : c ≠ 0 := by omega
  have d1 : c ∣ p := Int.natAbs_dvd.mp (by rw [hc]; exact Int.gcd_dvd_left ..)
  have d2 : c ∣ q := Int.natAbs_dvd.mp (by rw [hc]; exact Int.gcd_dvd_right ..)
  have e1 : p.fdiv c * c = p := Int.fdiv_mul_cancel d1
  have e2 : q.fdiv c * c = q := Int.fdiv_mul_cancel d2
  generalize p.fdiv c = t at e1
  generalize q.fdiv c = b at e2
  have hb : 0 < b := by
    rcases Int.lt_or_gt_of_ne hq with h | h
    · have h1 := hs.1 h
      rcases Int.lt_trichotomy b 0 with hb | hb | hb
      · have := Int.mul_nonneg_of_nonpos_of_nonpos (Int.le_of_lt hb) h1
        omega
      · subst hb
        omega
      · exact hb
    · have h1 := hs.2 (by omega)
      rcases Int.lt_trichotomy b 0 with hb | hb | hb
      · have := Int.mul_nonpos_of_nonpos_of_nonneg (Int.le_of_lt hb) h1
        omega
      · subst hb
        omega
      · exact hb
  refine ⟨hc0, hb, ?_, ?_⟩
  · have e3 : Int.gcd p q = Int.gcd t b * c.natAbs := by rw [← e1, ← e2, Int.gcd_mul_right]
    rw [hc] at e3
    have e4 : 1 * Int.gcd p q = Int.gcd t b * Int.gcd p q := by omega
    exact (Nat.eq_of_mul_eq_mul_right hg e4).symm
  · rw [← e1, ← e2, Int.mul_assoc, Int.mul_comm b c]
def spInit (K : PySem.W.Frag) : Sp := fun vs H Q E => ∃ (x dx : Addr) (p q : Int), vs = [.ref x, .int p, .int q] ∧ H x = some (.ins (He.ga K "Ratio") dx []) ∧ p.natAbs < 2 ^ 8000 ∧ q.natAbs < 2 ^ 8000 ∧ (q = 0 → E (.type "ZeroDivisionError") none H) ∧
  (q ≠ 0 → ∀ H' t b, Keep [x] H H' → H' x = some (.ins (He.ga K "Ratio") dx (rf t b)) → Red p q t b → Q .non H')
theorem pow_mono {n a b : Nat} (h : n < 2 ^ a) (hab : a ≤ b) : n < 2 ^ b := Nat.lt_of_lt_of_le h (Nat.pow_le_pow_right (by decide) hab)
theorem ok_Ratio_DinitD {P : Program} {w : World} {K : PySem.W.Frag} {mg : Str → Option Value} {base : Heap} (T : Tx K mg) : ∃ fd, FnOk P w K mg base (L2.CX P w) 2 (He.ma K (He.ga K "Ratio") "__init__") fd ["self", "top", "bottom"] ((spInit K)) ∧ FunD K "__init__" "Ratio.__init__" (defArgs (inClass (topS 3) 0)) (defBody (inClass (topS 3) 0)) (defScope (inClass (topS 3) 0)) [V.int 1] [] (He.ma K (He.ga K "Ratio") "__init__") fd := by
  obtain ⟨fd, F⟩ := T.d_Ratio_DinitD
  refine ⟨fd, F.ok sc_Ratio_DinitD (fun vs H Q E h => ?len) (fun cdv A outer s H vs Q E hr h => ?body), F⟩
  case len =>
    obtain ⟨x, dx, p, q, rfl, _⟩ := h
    rfl
  case body =>
    have O_divisor := ok_divisor (P := P) (w := w) (base := base) T
    obtain ⟨x, dx, p, q, rfl, hx, hp, hq, h0, h1⟩ := h
    refine ⟨_, (pss_cons (ps_if (pt_cmpR op_eq (pv 2) pe_int (nomark _)) (pss_one (ps_raiseB rfl (takes_of rfl rfl rfl rfl) exb_ZeroDivisionError (by rfl) T.f_ZeroDivisionError boot_ZeroDivisionError)) pss_nil)
      (pss_cons (ps_set (i := 3) sc_Ratio_DinitD.nd rfl (Or.inl rfl) (PB.pe_callF O_divisor (hr.mono (by decide)) pas0 (pa_cons (pv 1) (pa_cons (pv 2) pa_nil))))
      (C8.pss_cut (ps_if (pt_cmpR op_lt (pv 2) pe_int (nomark _)) (pss_one (ps_set (i := 3) sc_Ratio_DinitD.nd rfl (Or.inl rfl) (pe_un un_neg (pv 3)))) pss_nil)
      (pss_cons (ps_fld (pv 0) (pe_op PB.op_fdivG (pv 1) (pv 3)) rfl)
      (pss_one (ps_fld (pv 0) (pe_op PB.op_fdivG (pv 2) (pv 3)) rfl)))))), ?_⟩
    try dsimp only [cxOf, Cx.nox, Cx.wish]
    rw [show ∀ z0 z1 z2 : V, L2.start ["self", "top", "bottom", "common"] [z0, z1, z2] = [some z0, some z1, some z2, none] from fun _ _ _ => rfl]
    walk_at "pb"
    refine b_eqI (fun hz => ?_) (fun hz => ?_)
    · exact h0 hz
    · walk_at "pb"
      refine ⟨p, q, rfl, ?_⟩
      walk_at "pb"
      refine i_cut (fun σ' H' => H' = H ∧ ∃ c : Int, σ' = [some (.ref x), some (.int p), some (.int q), some (.int c)] ∧ c.natAbs = Int.gcd p q ∧ (q < 0 → c ≤ 0) ∧ (¬ q < 0 → 0 ≤ c)) ?_ ?_
      · walk_at "pb"
        refine b_dec (fun hn => ?_) (fun hn => ?_)
        · walk_at "pb"
          exact ⟨rfl, _, rfl, by omega, by omega, by omega⟩
        · walk_at "pb"
          exact ⟨rfl, _, rfl, by omega, by omega, by omega⟩
      · rintro σ' H' ⟨rfl, c, rfl, hc, hs⟩
        obtain ⟨hc0, hr⟩ := red_of hz hc hs
        have hcb : c.natAbs < 2 ^ 9000 := by
          rw [hc]
          refine pow_mono (Nat.lt_of_le_of_lt ?_ hq) (by decide)
          exact Nat.le_of_dvd (by omega) (Int.natCast_dvd_natCast.mp (by rw [Int.dvd_natAbs]; exact Int.gcd_dvd_right ..))
        walk_at "pb"
        refine i_rI ⟨hc0, hcb⟩ ?_
        walk_at "pb"
        refine i_sfldR hx T.cls_Ratio T.noat_Ratio_top (by decide) fun H1 k1 hx1 => ?_
        walk_at "pb"
        refine i_rI ⟨hc0, hcb⟩ ?_
        walk_at "pb"
        refine i_sfldR hx1 T.cls_Ratio T.noat_Ratio_bottom (show 1 < 1000 by decide) fun H2 k2 hx2 => ?_
        exact h1 hz _ _ _ (k1.trans k2) hx2 hr
theorem ok_Ratio_DinitD_1 {P : Program} {w : World} {K : PySem.W.Frag} {mg : Str → Option Value} {base : Heap} (T : Tx K mg) : OkC P w K mg base (L2.CX P w) 2 "Ratio" ["self", "top", "bottom"] [V.int 1] ((spInit K)) := by
  obtain ⟨fd, G, F⟩ := ok_Ratio_DinitD (P := P) (w := w) (base := base) T
  obtain ⟨ds, hv, hb⟩ := F.binds1 (ps := ["self", "top", "bottom"]) 2 0 (by simp) rfl fun _ _ _ _ _ _ _ us its hl hi => match us, its, hl, hi with | [_, _], [_], _, _ => ⟨_, rfl, rfl⟩
  exact ⟨fd, ds, G, T.g_Ratio, T.mk_Ratio, hb, hv⟩
theorem ok_Ratio_DinitD_all {P : Program} {w : World} {K : PySem.W.Frag} {mg : Str → Option Value} {base : Heap} (T : Tx K mg) : OkC P w K mg base (L2.CX P w) 2 "Ratio" ["self", "top", "bottom"] [] ((spInit K)) := by
  obtain ⟨fd, G, F⟩ := ok_Ratio_DinitD (P := P) (w := w) (base := base) T
  obtain ⟨ds, hv, hb⟩ := F.binds1 (ps := ["self", "top", "bottom"]) 3 1 (by simp) rfl fun _ _ _ _ _ _ _ us its hl hi => match us, its, hl, hi with | [_, _, _], [_], _, _ => ⟨_, rfl, rfl⟩
  exact ⟨fd, ds, G, T.g_Ratio, T.mk_Ratio, hb, hv⟩
/-- a Ratio is made of p over q -/
theorem use_make {K : PySem.W.Frag} {E : XK} {H : Hp} {Q : VK} {p q : Int} (hz : q ≠ 0) (s1 : p.natAbs < 2 ^ 8000) (s2 : q.natAbs < 2 ^ 8000)
    (h : ∀ a dx H' t b, H a = none → Keep [] H H' → H' a = some (.ins (He.ga K "Ratio") dx (rf t b)) → Red p q t b → Q (.ref a) H') : NewI (He.ga K "Ratio") (spInit K) [.int p, .int q] E H Q := by
  refine i_newI fun x dx H1 hx k1 hx1 => ?_
  refine ⟨x, dx, p, q, rfl, hx1, s1, s2, fun z => absurd z hz, fun _ H2 t b k2 hx2 hr => ⟨rfl, ?_⟩⟩
  exact h x dx H2 t b hx (k1.fresh1 hx k2) hx2 hr
def fAdd (t b u d : Int) : Int × Int := (t * d + u * b, b * d)
def fSub (t b u d : Int) : Int × Int := (t * d - u * b, b * d)
def fMul (t b u d : Int) : Int × Int := (t * u, b * d)
def fRsub (t b u d : Int) : Int × Int := (u * b - t * d, b * d)
/-- self op other gives the Ratio of F -/
def spBin (K : PySem.W.Frag) (F : Int → Int → Int → Int → Int × Int) : Sp := fun vs H Q _ => ∃ (x v : V) (t b u d : Int) , vs = [x, v] ∧ IsR K H x t b ∧ FrV K H v u d ∧ t.natAbs < 2 ^ 1000 ∧ b.natAbs < 2 ^ 1000 ∧ u.natAbs < 2 ^ 1000 ∧ d.natAbs < 2 ^ 1000 ∧ b ≠ 0 ∧ d ≠ 0 ∧
  ∀ a dx H' t' b', H a = none → Keep [] H H' → H' a = some (.ins (He.ga K "Ratio") dx (rf t' b')) → Red (F t b u d).1 (F t b u d).2 t' b' → Q (.ref a) H'
theorem mul2 {i j : Int} (hi : i.natAbs < 2 ^ 1000) (hj : j.natAbs < 2 ^ 1000) : CMulW i j := wide_mul hi hj (by decide) (by decide) (by decide)
theorem mul2_lt {i j : Int} (hi : i.natAbs < 2 ^ 1000) (hj : j.natAbs < 2 ^ 1000) : (i * j).natAbs < 2 ^ 2000 := wide_lt hi hj
theorem add_lt {i j : Int} {n : Nat} (hi : i.natAbs < 2 ^ n) (hj : j.natAbs < 2 ^ n) : (i + j).natAbs < 2 ^ (n + 1) := by
  rw [Nat.pow_succ]
  omega
theorem sub_lt {i j : Int} {n : Nat} (hi : i.natAbs < 2 ^ n) (hj : j.natAbs < 2 ^ n) : (i - j).natAbs < 2 ^ (n + 1) := by
  rw [Nat.pow_succ]
  omega
theorem ok_Ratio_DaddD {P : Program} {w : World} {K : PySem.W.Frag} {mg : Str → Option Value} {base : Heap} (T : Tx K mg) : OkM P w K mg base CX0 4 "Ratio" "__add__" ["self", "other"] [] ((spBin K fAdd)) := by
  obtain ⟨fd, F⟩ := T.d_Ratio_DaddD
  refine ⟨fd, [], F.ok sc_Ratio_DaddD (fun vs H Q E h => ?len) (fun cdv A outer s H vs Q E hr h => ?body), T.cls_Ratio, T.meth_Ratio_DaddD, F.bindsN fun _ _ _ _ _ _ us hl => match us, hl with | [_, _], _ => rfl, .nil⟩
  case len =>
    obtain ⟨x, v, t, b, u, d, rfl, _⟩ := h
    rfl
  case body =>
    have O_fraction := ok_fraction (P := P) (w := w) (base := base) T
    have O_Ratio := ok_Ratio_DinitD_all (P := P) (w := w) (base := base) T
    obtain ⟨x, v, t, b, u, d, rfl, hx, hv, st, sb, su, sd, hb, hd, q⟩ := h
    obtain ⟨ax, dx, rfl, hx⟩ := hx
    refine ⟨_, PSs.nox (pss_cons (ps_asg (PB.pe_callF O_fraction (hr.mono (by decide)) pas0 (pa_cons (pv 1) pa_nil)) (pg_tup rfl (pgs_cons (pg_name (i := 2) sc_Ratio_DaddD.nd rfl (Or.inl rfl)) (pgs_cons (pg_name (i := 3) sc_Ratio_DaddD.nd rfl (Or.inl rfl)) pgs_nil))))
      (pss_one (ps_ret (PB.pe_makeF O_Ratio (hr.mono (by decide)) (pasT takes0) (pa_cons (pe_op op_add (pe_op op_mulW (pe_fld (pv 0) rfl) (pv 3)) (pe_op op_mulW (pv 2) (pe_fld (pv 0) rfl))) (pa_cons (pe_op op_mulW (pe_fld (pv 0) rfl) (pv 3)) pa_nil)))))), ?_⟩
    try dsimp only [cxOf, Cx.nox, Cx.wish]
    rw [show ∀ z0 z1 : V, L2.start ["self", "other", "top", "bottom"] [z0, z1] = [some z0, some z1, none, none] from fun _ _ => rfl]
    walk_at "pb"
    refine ⟨v, u, d, rfl, hv, fun p H1 k1 hp => ?_⟩
    replace hx := k1.at_ _ _ (by simp) hx
    refine i_gtup (SqT.of hp) rfl ?_
    walk_at "pb"
    refine i_fldR hx T.cls_Ratio T.noat_Ratio_top rfl ?_
    walk_at "pb"
    refine i_rI (mul2 st sd) ?_
    walk_at "pb"
    refine i_fldR hx T.cls_Ratio T.noat_Ratio_bottom rfl ?_
    refine i_rI (mul2 su sb) ?_
    walk_at "pb"
    refine i_fldR hx T.cls_Ratio T.noat_Ratio_bottom rfl ?_
    walk_at "pb"
    refine i_rI (mul2 sb sd) ?_
    walk_at "pb"
    refine use_make (Int.mul_ne_zero hb hd) (pow_mono (add_lt (mul2_lt st sd) (mul2_lt su sb)) (by decide)) (pow_mono (mul2_lt sb sd) (by decide)) fun a dx' H2 t' b' ha k2 h2 hr => ?_
    exact q a dx' H2 t' b' (k1.free (by simp) ha) (k1.trans k2) h2 hr
theorem ok_Ratio_DsubD {P : Program} {w : World} {K : PySem.W.Frag} {mg : Str → Option Value} {base : Heap} (T : Tx K mg) : OkM P w K mg base CX0 4 "Ratio" "__sub__" ["self", "other"] [] ((spBin K fSub)) := by
  obtain ⟨fd, F⟩ := T.d_Ratio_DsubD
  refine ⟨fd, [], F.ok sc_Ratio_DsubD (fun vs H Q E h => ?len) (fun cdv A outer s H vs Q E hr h => ?body), T.cls_Ratio, T.meth_Ratio_DsubD, F.bindsN fun _ _ _ _ _ _ us hl => match us, hl with | [_, _], _ => rfl, .nil⟩
  case len =>
    obtain ⟨x, v, t, b, u, d, rfl, _⟩ := h
    rfl
  case body =>
    have O_fraction := ok_fraction (P := P) (w := w) (base := base) T
    have O_Ratio := ok_Ratio_DinitD_all (P := P) (w := w) (base := base) T
    obtain ⟨x, v, t, b, u, d, rfl, hx, hv, st, sb, su, sd, hb, hd, q⟩ := h
    obtain ⟨ax, dx, rfl, hx⟩ := hx
    refine ⟨_, PSs.nox (pss_cons (ps_asg (PB.pe_callF O_fraction (hr.mono (by decide)) pas0 (pa_cons (pv 1) pa_nil)) (pg_tup rfl (pgs_cons (pg_name (i := 2) sc_Ratio_DsubD.nd rfl (Or.inl rfl)) (pgs_cons (pg_name (i := 3) sc_Ratio_DsubD.nd rfl (Or.inl rfl)) pgs_nil))))
      (pss_one (ps_ret (PB.pe_makeF O_Ratio (hr.mono (by decide)) (pasT takes0) (pa_cons (pe_op op_sub (pe_op op_mulW (pe_fld (pv 0) rfl) (pv 3)) (pe_op op_mulW (pv 2) (pe_fld (pv 0) rfl))) (pa_cons (pe_op op_mulW (pe_fld (pv 0) rfl) (pv 3)) pa_nil)))))), ?_⟩
    try dsimp only [cxOf, Cx.nox, Cx.wish]
    rw [show ∀ z0 z1 : V, L2.start ["self", "other", "top", "bottom"] [z0, z1] = [some z0, some z1, none, none] from fun _ _ => rfl]
    walk_at "pb"
    refine ⟨v, u, d, rfl, hv, fun p H1 k1 hp => ?_⟩
    replace hx := k1.at_ _ _ (by simp) hx
    refine i_gtup (SqT.of hp) rfl ?_
    walk_at "pb"
    refine i_fldR hx T.cls_Ratio T.noat_Ratio_top rfl ?_
    walk_at "pb"
    refine i_rI (mul2 st sd) ?_
    walk_at "pb"
    refine i_fldR hx T.cls_Ratio T.noat_Ratio_bottom rfl ?_
    refine i_rI (mul2 su sb) ?_
    walk_at "pb"
    refine i_fldR hx T.cls_Ratio T.noat_Ratio_bottom rfl ?_
    walk_at "pb"
    refine i_rI (mul2 sb sd) ?_
    walk_at "pb"
    refine use_make (Int.mul_ne_zero hb hd) (pow_mono (sub_lt (mul2_lt st sd) (mul2_lt su sb)) (by decide)) (pow_mono (mul2_lt sb sd) (by decide)) fun a dx' H2 t' b' ha k2 h2 hr => ?_
    exact q a dx' H2 t' b' (k1.free (by simp) ha) (k1.trans k2) h2 hr
theorem ok_Ratio_DmulD {P : Program} {w : World} {K : PySem.W.Frag} {mg : Str → Option Value} {base : Heap} (T : Tx K mg) : OkM P w K mg base CX0 4 "Ratio" "__mul__" ["self", "other"] [] ((spBin K fMul)) := by
  obtain ⟨fd, F⟩ := T.d_Ratio_DmulD
  refine ⟨fd, [], F.ok sc_Ratio_DmulD (fun vs H Q E h => ?len) (fun cdv A outer s H vs Q E hr h => ?body), T.cls_Ratio, T.meth_Ratio_DmulD, F.bindsN fun _ _ _ _ _ _ us hl => match us, hl with | [_, _], _ => rfl, .nil⟩
  case len =>
    obtain ⟨x, v, t, b, u, d, rfl, _⟩ := h
    rfl
  case body =>
    have O_fraction := ok_fraction (P := P) (w := w) (base := base) T
    have O_Ratio := ok_Ratio_DinitD_all (P := P) (w := w) (base := base) T
    obtain ⟨x, v, t, b, u, d, rfl, hx, hv, st, sb, su, sd, hb, hd, q⟩ := h
    obtain ⟨ax, dx, rfl, hx⟩ := hx
    refine ⟨_, PSs.nox (pss_cons (ps_asg (PB.pe_callF O_fraction (hr.mono (by decide)) pas0 (pa_cons (pv 1) pa_nil)) (pg_tup rfl (pgs_cons (pg_name (i := 2) sc_Ratio_DmulD.nd rfl (Or.inl rfl)) (pgs_cons (pg_name (i := 3) sc_Ratio_DmulD.nd rfl (Or.inl rfl)) pgs_nil))))
      (pss_one (ps_ret (PB.pe_makeF O_Ratio (hr.mono (by decide)) (pasT takes0) (pa_cons (pe_op op_mulW (pe_fld (pv 0) rfl) (pv 2)) (pa_cons (pe_op op_mulW (pe_fld (pv 0) rfl) (pv 3)) pa_nil)))))), ?_⟩
    try dsimp only [cxOf, Cx.nox, Cx.wish]
    rw [show ∀ z0 z1 : V, L2.start ["self", "other", "top", "bottom"] [z0, z1] = [some z0, some z1, none, none] from fun _ _ => rfl]
    walk_at "pb"
    refine ⟨v, u, d, rfl, hv, fun p H1 k1 hp => ?_⟩
    replace hx := k1.at_ _ _ (by simp) hx
    refine i_gtup (SqT.of hp) rfl ?_
    walk_at "pb"
    refine i_fldR hx T.cls_Ratio T.noat_Ratio_top rfl ?_
    walk_at "pb"
    refine i_rI (mul2 st su) ?_
    walk_at "pb"
    refine i_fldR hx T.cls_Ratio T.noat_Ratio_bottom rfl ?_
    walk_at "pb"
    refine i_rI (mul2 sb sd) ?_
    walk_at "pb"
    refine use_make (Int.mul_ne_zero hb hd) (pow_mono (mul2_lt st su) (by decide)) (pow_mono (mul2_lt sb sd) (by decide)) fun a dx' H2 t' b' ha k2 h2 hr => ?_
    exact q a dx' H2 t' b' (k1.free (by simp) ha) (k1.trans k2) h2 hr
theorem ok_Ratio_DraddD {P : Program} {w : World} {K : PySem.W.Frag} {mg : Str → Option Value} {base : Heap} (T : Tx K mg) : OkM P w K mg base CX0 5 "Ratio" "__radd__" ["self", "other"] [] ((spBin K fAdd)) := by
  obtain ⟨fd, F⟩ := T.d_Ratio_DraddD
  refine ⟨fd, [], F.ok sc_Ratio_DraddD (fun vs H Q E h => ?len) (fun cdv A outer s H vs Q E hr h => ?body), T.cls_Ratio, T.meth_Ratio_DraddD, F.bindsN fun _ _ _ _ _ _ us hl => match us, hl with | [_, _], _ => rfl, .nil⟩
  case len =>
    obtain ⟨x, v, t, b, u, d, rfl, _⟩ := h
    rfl
  case body =>
    have O_Ratio_DaddD := ok_Ratio_DaddD (P := P) (w := w) (base := base) T
    obtain ⟨x, v, t, b, u, d, rfl, hx, hv, st, sb, su, sd, hb, hd, q⟩ := h
    refine ⟨_, PSs.nox (pss_one (ps_ret (pe_opS (op_own O_Ratio_DaddD T.own_Ratio (rv_meth T.meth_Ratio_DraddD) (hr.mono (by decide)) pas0 PySem.F.fills_int_add tk_add) (pv 0) (pv 1)))), ?_⟩
    try dsimp only [cxOf, Cx.nox, Cx.wish]
    rw [show ∀ z0 z1 : V, L2.start ["self", "other"] [z0, z1] = [some z0, some z1] from fun _ _ => rfl]
    have hx' := hx
    obtain ⟨ax, dx, rfl, hx'⟩ := hx'
    walk_at "pb"
    rcases hv with hv | ⟨rfl, rfl⟩
    · have hv' := hv
      obtain ⟨av, dv, rfl, hv'⟩ := hv'
      exact i_own hx' hv' ⟨_, _, t, b, u, d, rfl, hx, .inl hv, st, sb, su, sd, hb, hd, q⟩
    · exact i_ownI hx' ⟨_, _, t, b, u, 1, rfl, hx, .inr ⟨rfl, rfl⟩, st, sb, su, sd, hb, hd, q⟩
theorem ok_Ratio_DrmulD {P : Program} {w : World} {K : PySem.W.Frag} {mg : Str → Option Value} {base : Heap} (T : Tx K mg) : OkM P w K mg base CX0 5 "Ratio" "__rmul__" ["self", "other"] [] ((spBin K fMul)) := by
  obtain ⟨fd, F⟩ := T.d_Ratio_DrmulD
  refine ⟨fd, [], F.ok sc_Ratio_DrmulD (fun vs H Q E h => ?len) (fun cdv A outer s H vs Q E hr h => ?body), T.cls_Ratio, T.meth_Ratio_DrmulD, F.bindsN fun _ _ _ _ _ _ us hl => match us, hl with | [_, _], _ => rfl, .nil⟩
  case len =>
    obtain ⟨x, v, t, b, u, d, rfl, _⟩ := h
    rfl
  case body =>
    have O_Ratio_DmulD := ok_Ratio_DmulD (P := P) (w := w) (base := base) T
    obtain ⟨x, v, t, b, u, d, rfl, hx, hv, st, sb, su, sd, hb, hd, q⟩ := h
    refine ⟨_, PSs.nox (pss_one (ps_ret (pe_opS (op_own O_Ratio_DmulD T.own_Ratio (rv_meth T.meth_Ratio_DrmulD) (hr.mono (by decide)) pas0 PySem.F.fills_int_mul tk_mul) (pv 0) (pv 1)))), ?_⟩
    try dsimp only [cxOf, Cx.nox, Cx.wish]
    rw [show ∀ z0 z1 : V, L2.start ["self", "other"] [z0, z1] = [some z0, some z1] from fun _ _ => rfl]
    have hx' := hx
    obtain ⟨ax, dx, rfl, hx'⟩ := hx'
    walk_at "pb"
    rcases hv with hv | ⟨rfl, rfl⟩
    · have hv' := hv
      obtain ⟨av, dv, rfl, hv'⟩ := hv'
      exact i_own hx' hv' ⟨_, _, t, b, u, d, rfl, hx, .inl hv, st, sb, su, sd, hb, hd, q⟩
    · exact i_ownI hx' ⟨_, _, t, b, u, 1, rfl, hx, .inr ⟨rfl, rfl⟩, st, sb, su, sd, hb, hd, q⟩
def fNeg (t b : Int) : Int × Int := (-t, b)
def fAbs (t b : Int) : Int × Int := (if t < 0 then -t else t, b)
def spUn (K : PySem.W.Frag) (F : Int → Int → Int × Int) : Sp := fun vs H Q _ => ∃ (x : V) (t b : Int) , vs = [x] ∧ IsR K H x t b ∧ t.natAbs < 2 ^ 1000 ∧ b.natAbs < 2 ^ 1000 ∧ b ≠ 0 ∧
  ∀ a dx H' t' b', H a = none → Keep [] H H' → H' a = some (.ins (He.ga K "Ratio") dx (rf t' b')) → Red (F t b).1 (F t b).2 t' b' → Q (.ref a) H'
theorem ok_Ratio_DnegD {P : Program} {w : World} {K : PySem.W.Frag} {mg : Str → Option Value} {base : Heap} (T : Tx K mg) : OkM P w K mg base CX0 4 "Ratio" "__neg__" ["self"] [] ((spUn K fNeg)) := by
  obtain ⟨fd, F⟩ := T.d_Ratio_DnegD
  refine ⟨fd, [], F.ok sc_Ratio_DnegD (fun vs H Q E h => ?len) (fun cdv A outer s H vs Q E hr h => ?body), T.cls_Ratio, T.meth_Ratio_DnegD, F.bindsN fun _ _ _ _ _ _ us hl => match us, hl with | [_], _ => rfl, .nil⟩
  case len =>
    obtain ⟨x, t, b, rfl, _⟩ := h
    rfl
  case body =>
    have O_Ratio := ok_Ratio_DinitD_all (P := P) (w := w) (base := base) T
    obtain ⟨x, t, b, rfl, ⟨ax, dx, rfl, hx⟩, st, sb, hb, q⟩ := h
    refine ⟨_, PSs.nox (pss_one (ps_ret (PB.pe_makeF O_Ratio (hr.mono (by decide)) (pasT takes0) (pa_cons (pe_un un_neg (pe_fld (pv 0) rfl)) (pa_cons (pe_fld (pv 0) rfl) pa_nil))))), ?_⟩
    try dsimp only [cxOf, Cx.nox, Cx.wish]
    rw [show ∀ z0 : V, L2.start ["self"] [z0] = [some z0] from fun _ => rfl]
    walk_at "pb"
    refine i_fldR hx T.cls_Ratio T.noat_Ratio_top rfl ?_
    walk_at "pb"
    refine i_fldR hx T.cls_Ratio T.noat_Ratio_bottom rfl ?_
    walk_at "pb"
    exact use_make hb (pow_mono (show (-t).natAbs < 2 ^ 1000 by rw [Int.natAbs_neg]; exact st) (by decide)) (pow_mono sb (by decide)) q
theorem ok_Ratio_DabsD {P : Program} {w : World} {K : PySem.W.Frag} {mg : Str → Option Value} {base : Heap} (T : Tx K mg) : OkM P w K mg base CX0 4 "Ratio" "__abs__" ["self"] [] ((spUn K fAbs)) := by
  obtain ⟨fd, F⟩ := T.d_Ratio_DabsD
  refine ⟨fd, [], F.ok sc_Ratio_DabsD (fun vs H Q E h => ?len) (fun cdv A outer s H vs Q E hr h => ?body), T.cls_Ratio, T.meth_Ratio_DabsD, F.bindsN fun _ _ _ _ _ _ us hl => match us, hl with | [_], _ => rfl, .nil⟩
  case len =>
    obtain ⟨x, t, b, rfl, _⟩ := h
    rfl
  case body =>
    have O_Ratio := ok_Ratio_DinitD_all (P := P) (w := w) (base := base) T
    obtain ⟨x, t, b, rfl, ⟨ax, dx, rfl, hx⟩, st, sb, hb, q⟩ := h
    refine ⟨_, PSs.nox (pss_one (ps_ret (PB.pe_makeF O_Ratio (hr.mono (by decide)) (pasT takes0) (pa_cons (pe_callB call_abs (by rfl) T.f_abs (by decide +kernel) (pa_cons (pe_fld (pv 0) rfl) pa_nil)) (pa_cons (pe_fld (pv 0) rfl) pa_nil))))), ?_⟩
    try dsimp only [cxOf, Cx.nox, Cx.wish]
    rw [show ∀ z0 : V, L2.start ["self"] [z0] = [some z0] from fun _ => rfl]
    walk_at "pb"
    refine i_fldR hx T.cls_Ratio T.noat_Ratio_top rfl ?_
    walk_at "pb"
    refine i_fldR hx T.cls_Ratio T.noat_Ratio_bottom rfl ?_
    walk_at "pb"
    refine use_make hb (pow_mono (a := 1000) ?_ (by decide)) (pow_mono sb (by decide)) q
    have e : (if t < 0 then -t else t).natAbs = t.natAbs := by rw [abs_e]; omega
    rw [e]
    exact st
theorem ok_Ratio_DrsubD {P : Program} {w : World} {K : PySem.W.Frag} {mg : Str → Option Value} {base : Heap} (T : Tx K mg) : OkM P w K mg base CX0 5 "Ratio" "__rsub__" ["self", "other"] [] ((spBin K fRsub)) := by
  obtain ⟨fd, F⟩ := T.d_Ratio_DrsubD
  refine ⟨fd, [], F.ok sc_Ratio_DrsubD (fun vs H Q E h => ?len) (fun cdv A outer s H vs Q E hr h => ?body), T.cls_Ratio, T.meth_Ratio_DrsubD, F.bindsN fun _ _ _ _ _ _ us hl => match us, hl with | [_, _], _ => rfl, .nil⟩
  case len =>
    obtain ⟨x, v, t, b, u, d, rfl, _⟩ := h
    rfl
  case body =>
    have O_Ratio_DaddD := ok_Ratio_DaddD (P := P) (w := w) (base := base) T
    have O_Ratio_DnegD := ok_Ratio_DnegD (P := P) (w := w) (base := base) T
    obtain ⟨x, v, t, b, u, d, rfl, hx, hv, st, sb, su, sd, hb, hd, q⟩ := h
    refine ⟨_, PSs.nox (pss_one (ps_ret (pe_opS (op_own O_Ratio_DaddD T.own_Ratio (rv_meth T.meth_Ratio_DraddD) (hr.mono (by decide)) pas0 PySem.F.fills_int_add tk_add) (pe_unS (un_negOwn O_Ratio_DnegD (hr.mono (by decide)) pas0) (pv 0)) (pv 1)))), ?_⟩
    try dsimp only [cxOf, Cx.nox, Cx.wish]
    rw [show ∀ z0 z1 : V, L2.start ["self", "other"] [z0, z1] = [some z0, some z1] from fun _ _ => rfl]
    obtain ⟨ax, dx, rfl, hx⟩ := hx
    walk_at "pb"
    refine i_own1 hx ⟨_, t, b, rfl, ⟨ax, dx, rfl, hx⟩, st, sb, hb, fun a dx' H1 t' b' ha k1 h1 hr => ?_⟩
    replace hv := hv.keep k1
    have st' : t'.natAbs < 2 ^ 1000 := Nat.lt_of_le_of_lt (hr.st hb) (by show (-t).natAbs < _; rw [Int.natAbs_neg]; exact st)
    have sb' : b'.natAbs < 2 ^ 1000 := Nat.lt_of_le_of_lt (hr.sb hb) sb
    have hb' : b' ≠ 0 := by have := hr.pos; omega
    have fin : ∀ (a : Addr) (dx : Addr) (H' : Hp) (t'' b'' : Int), H1 a = none → Keep [] H1 H' → H' a = some (.ins (He.ga K "Ratio") dx (rf t'' b'')) → Red (fAdd t' b' u d).1 (fAdd t' b' u d).2 t'' b'' → Q (.ref a) H' := by
      intro a2 dx2 H2 t2 b2 ha2 k2 h2 hr2
      refine q a2 dx2 H2 t2 b2 (k1.free (by simp) ha2) (k1.trans k2) h2 ?_
      have e0 : t' * b = -t * b' := hr.eq
      have e1 : t2 * (b' * d) = (t' * d + u * b') * b2 := hr2.eq
      refine ⟨hr2.pos, hr2.low, ?_⟩
      show t2 * (b * d) = (u * b - t * d) * b2
      refine Int.eq_of_mul_eq_mul_right hb' ?_
      have e2 : t2 * (b * d) * b' = (t2 * (b' * d)) * b := by
        simp only [Int.mul_assoc, Int.mul_comm, Int.mul_left_comm]
      rw [e2, e1]
      have e3 : (t' * d + u * b') * b2 * b = ((t' * b) * d + u * b' * b) * b2 := by walk_at "rng"
      rw [e3, e0]
      walk_at "rng"
    walk_at "pb"
    rcases hv with hv | ⟨rfl, rfl⟩
    · obtain ⟨av, dv, rfl, hv'⟩ := hv
      exact i_own h1 hv' ⟨_, _, t', b', u, d, rfl, ⟨_, _, rfl, h1⟩, .inl ⟨_, _, rfl, hv'⟩, st', sb', su, sd, hb', hd, fin⟩
    · exact i_ownI h1 ⟨_, _, t', b', u, 1, rfl, ⟨_, _, rfl, h1⟩, .inr ⟨rfl, rfl⟩, st', sb', su, sd, hb', hd, fin⟩
def spWhole : Sp := fun vs H Q _ => ∃ i : Int, vs = [.int i] ∧ Q (.bl true) H
theorem ok_l_m_whole {P : Program} {w : World} {K : PySem.W.Frag} {mg : Str → Option Value} {base : Heap} (T : Tx K mg) : OkF P w K mg base CX0 1 "_law_m_whole" ["_law_thing"] [] (spWhole) := by
  obtain ⟨fd, F⟩ := T.d_l_m_whole
  refine ⟨fd, [], F.ok sc_l_m_whole (fun vs H Q E h => ?len) (fun cdv A outer s H vs Q E hr h => ?body), T.g_l_m_whole, F.kp, F.bindsN fun _ _ _ _ _ _ us hl => match us, hl with | [_], _ => rfl, .nil⟩
  case len =>
    obtain ⟨i, rfl, _⟩ := h
    rfl
  case body =>
    obtain ⟨i, rfl, q⟩ := h
    refine ⟨_, PSs.nox (pss_one (ps_ret (pe_and (pe_callB call_isi (by rfl) T.f_isinstance (by decide +kernel) (pa_cons (pv 0) (pa_cons (pe_bltn (v := .ty "int") (by rfl) T.f_int (by decide +kernel) rfl) pa_nil))) (pe_one (pe_not (pe_callB call_isi (by rfl) T.f_isinstance (by decide +kernel) (pa_cons (pv 0) (pa_cons (pe_bltn (v := .ty "bool") (by rfl) T.f_bool (by decide +kernel) rfl) pa_nil)))))))), ?_⟩
    try dsimp only [cxOf, Cx.nox, Cx.wish]
    rw [show ∀ z0 : V, L2.start ["_law_thing"] [z0] = [some z0] from fun _ => rfl]
    walk_at "pb"
    refine i_isi_intT ?_
    walk_at "pb"
    refine i_isi_intF ?_
    walk_at "pb"
    exact q
def spStart (K : PySem.W.Frag) : Sp := fun vs H Q _ => ∃ (a : Addr) (ns : List Int), vs = [.ref a] ∧ SqL K H a (ns.map V.int) ∧ ns.length ≤ 63 ∧ ∀ S l H', H S = none → H l = none → Keep [] H H' → Stm S l 0 H' → Q (.ref S) H'
theorem ok_l_start {P : Program} {w : World} {K : PySem.W.Frag} {mg : Str → Option Value} {base : Heap} (T : Tx K mg) : OkF P w K mg base CX0 1 "_law_start" ["_law_script"] [] ((spStart K)) := by
  obtain ⟨fd, F⟩ := T.d_l_start
  refine ⟨fd, [], F.ok sc_l_start (fun vs H Q E h => ?len) (fun cdv A outer s H vs Q E hr h => ?body), T.g_l_start, F.kp, F.bindsN fun _ _ _ _ _ _ us hl => match us, hl with | [_], _ => rfl, .nil⟩
  case len =>
    obtain ⟨a, ns, rfl, _⟩ := h
    rfl
  case body =>
    obtain ⟨a, ns, rfl, hs, hl, q⟩ := h
    refine ⟨_, PSs.nox (pss_one (ps_ret (pe_lst (pa_cons (pe_callTy call_list_of (by rfl) T.f_list (by decide +kernel) (pa_cons (pv 0) pa_nil)) (pa_cons pe_int (pa_cons pe_int (pa_cons pe_int pa_nil))))))), ?_⟩
    try dsimp only [cxOf, Cx.nox, Cx.wish]
    rw [show ∀ z0 : V, L2.start ["_law_script"] [z0] = [some z0] from fun _ => rfl]
    walk_at "pb"
    refine ⟨a, _, rfl, .inl hs, fun l hl0 => ?_⟩
    refine i_new (o := .lst (ns.map V.int)) hl0 fun H1 k1 h1 => ?_
    walk_at "pb"
    refine i_lstR (by walk_at "sz") fun S H2 hS k2 hS2 => ?_
    have hne : S ≠ l := fun e => by subst e; rw [hS] at h1; cases h1
    exact q S l H2 (k1.free (by simp) hS) hl0 (k1.trans k2) ⟨hne, ns, 0, 0, 0, by omega, hS2, k2.at_ _ _ (by simp) h1, hl, by omega, by omega⟩
def spNumber : Sp := fun vs H Q _ => ∃ (S l : Addr) (n : Nat), vs = [.ref S] ∧ n < 9999000 ∧ Stm S l n H ∧ ∀ H' (r : Int), Keep [S, l] H H' → Stm S l (n + 2) H' → r.natAbs < 2 ^ 150 → Q (.int r) H'
theorem ten40 : (10 : Int) ^ (Int.toNat 40) = 10000000000000000000000000000000000000000 := by decide
theorem ten9 : (10 : Int) ^ (Int.toNat 9) = 1000000000 := by decide
theorem p150 : (2 : Nat) ^ 150 = 1427247692705959881058285969449495136382746624 := by decide
theorem ok_l_m_number {P : Program} {w : World} {K : PySem.W.Frag} {mg : Str → Option Value} {base : Heap} (T : Tx K mg) : OkF P w K mg base CX0 2 "_law_m_number" ["_law_stream"] [] (spNumber) := by
  obtain ⟨fd, F⟩ := T.d_l_m_number
  refine ⟨fd, [], F.ok sc_l_m_number (fun vs H Q E h => ?len) (fun cdv A outer s H vs Q E hr h => ?body), T.g_l_m_number, F.kp, F.bindsN fun _ _ _ _ _ _ us hl => match us, hl with | [_], _ => rfl, .nil⟩
  case len =>
    obtain ⟨S, l, n, rfl, _⟩ := h
    rfl
  case body =>
    have O_l_draw := ok_l_draw (P := P) (w := w) (base := base) T
    obtain ⟨S, l, n, rfl, hn, hS, q⟩ := h
    refine ⟨_, PSs.nox (pss_cons (ps_set (i := 1) sc_l_m_number.nd rfl (Or.inl rfl) (PB.pe_callF O_l_draw (hr.mono (by decide)) pas0 (pa_cons (pv 0) (pa_cons pe_int pa_nil))))
      (pss_cons (ps_if (pt_cmpR op_eq (pv 1) pe_int (nomark _)) (pss_one (ps_ret (pe_op op_sub (PB.pe_callF O_l_draw (hr.mono (by decide)) pas0 (pa_cons (pv 0) (pa_cons pe_int pa_nil))) pe_int))) pss_nil)
      (pss_cons (ps_set (i := 2) sc_l_m_number.nd rfl (Or.inl rfl) (pe_ix ix_list (pe_lst (pa_cons pe_int (pa_cons (pe_op op_pow pe_int pe_int) (pa_cons (pe_op op_pow pe_int pe_int) pa_nil)))) (pe_op op_sub (pv 1) pe_int) (fun _ _ => rfl)))
      (pss_one (ps_ret (pe_op op_sub (PB.pe_callF O_l_draw (hr.mono (by decide)) pas0 (pa_cons (pv 0) (pa_cons (pe_op op_add (pe_op op_mulW pe_int (pv 2)) pe_int) pa_nil))) (pv 2))))))), ?_⟩
    try dsimp only [cxOf, Cx.nox, Cx.wish]
    rw [show ∀ z0 : V, L2.start ["_law_stream", "_law_kind", "_law_size"] [z0] = [some z0, none, none] from fun _ => rfl]
    walk_at "pb"
    refine ⟨S, l, n, 4, rfl, by decide, by decide +kernel, by omega, hS, fun H1 k k1 hS h0 h4 => ?_⟩
    walk_at "pb"
    refine b_eqI (fun hk => ?_) (fun hk => ?_)
    · walk_at "pb"
      refine ⟨S, l, n + 1, 5, rfl, by decide, by decide +kernel, by omega, hS, fun H2 r k2 hS h0 h5 => ?_⟩
      walk_at "pb"
      exact q _ _ (k1.trans k2) hS (by rw [p150]; omega)
    · walk_at "pb"
      refine i_rI ⟨by decide, by decide, by decide⟩ ?_
      walk_at "pb"
      refine i_rI ⟨by decide, by decide, by decide⟩ ?_
      walk_at "pb"
      rw [ten40, ten9]
      refine i_lstR (by walk_at "sz") fun p H2 hp k2 hp2 => ?_
      walk_at "pb"
      have key : ∃ z : Int, 1000 ≤ z ∧ z ≤ 10 ^ 40 ∧ atI [V.int 1000, .int 1000000000, .int 10000000000000000000000000000000000000000] (k - 1) = some (.int z) := by
        have hk3 : k = 1 ∨ k = 2 ∨ k = 3 := by omega
        rcases hk3 with rfl | rfl | rfl
        · exact ⟨1000, by decide, by decide, rfl⟩
        · exact ⟨1000000000, by decide, by decide, rfl⟩
        · exact ⟨10000000000000000000000000000000000000000, by decide, by decide, rfl⟩
      obtain ⟨z, hz1, hz2, hat⟩ := key
      refine i_ixL (SqL.of hp2) hat ?_
      walk_at "pb"
      have hzb : z.natAbs < 2 ^ 150 := by rw [p150]; omega
      refine i_rI (wide_mul (i := 2) (a := 64) (b := 150) (by decide) hzb (by decide) (by decide) (by decide)) ?_
      walk_at "pb"
      have hS2 : Stm S l (n + 1) H2 := hS.keep k2 (by simp) (by simp)
      refine ⟨S, l, n + 1, 2 * z + 1, rfl, by omega, ?_, by omega, hS2, fun H3 r k3 hS h0 h5 => ?_⟩
      · have : (2 * z + 1).natAbs < 2 ^ 150 := by rw [p150]; omega
        exact pow_mono this (by decide)
      · walk_at "pb"
        exact q _ _ ((k1.trans k2.same).trans k3) hS (by rw [p150]; omega)
def spMR (K : PySem.W.Frag) : Sp := fun vs H Q _ => ∃ (v : V) (t b hi lo : Int), vs = [v, .int hi, .int lo] ∧ IsR K H v t b ∧ 0 < b ∧ Int.gcd t b = 1 ∧ t * lo = hi * b ∧ t.natAbs < 2 ^ 2500 ∧ b.natAbs < 2 ^ 2500 ∧ hi.natAbs < 2 ^ 2500 ∧ lo.natAbs < 2 ^ 2500 ∧ Q (.bl true) H
theorem ok_l_m_ratio {P : Program} {w : World} {K : PySem.W.Frag} {mg : Str → Option Value} {base : Heap} (T : Tx K mg) : OkF P w K mg base CX0 2 "_law_m_ratio" ["_law_found", "_law_high", "_law_low"] [] ((spMR K)) := by
  obtain ⟨fd, F⟩ := T.d_l_m_ratio
  refine ⟨fd, [], F.ok sc_l_m_ratio (fun vs H Q E h => ?len) (fun cdv A outer s H vs Q E hr h => ?body), T.g_l_m_ratio, F.kp, F.bindsN fun _ _ _ _ _ _ us hl => match us, hl with | [_, _, _], _ => rfl, .nil⟩
  case len =>
    obtain ⟨v, t, b, hi, lo, rfl, _⟩ := h
    rfl
  case body =>
    have O_l_m_whole := ok_l_m_whole (P := P) (w := w) (base := base) T
    have O_l_m_divisor := ok_l_m_divisor (P := P) (w := w) (base := base) T
    obtain ⟨v, t, b, hi, lo, rfl, ⟨a, dx, rfl, ha⟩, hb, hg, he, s1, s2, s3, s4, q⟩ := h
    refine ⟨_, PSs.nox (pss_cons (ps_if (PW.pt (pw_or (pt_not (pt_val (pe_callB call_isi (by rfl) T.f_isinstance (by decide +kernel) (pa_cons (pv 0) (pa_cons (pe_glob (v := .ref (He.ga K "Ratio")) (by rfl) T.g_Ratio rfl) pa_nil))))) (pw_or (pt_not (pt_val (PB.pe_callF O_l_m_whole (hr.mono (by decide)) pas0 (pa_cons (pe_fld (pv 0) rfl) pa_nil)))) (pw_or1 (pt_not (pt_val (PB.pe_callF O_l_m_whole (hr.mono (by decide)) pas0 (pa_cons (pe_fld (pv 0) rfl) pa_nil)))))))) (pss_one (ps_ret pe_bl)) pss_nil)
      (pss_cons (ps_if (PW.pt (pw_or (pt_cmpR op_lt (pe_fld (pv 0) rfl) pe_int (nomark _)) (pw_or1 (pt_cmpR op_ne (PB.pe_callF O_l_m_divisor (hr.mono (by decide)) pas0 (pa_cons (pe_fld (pv 0) rfl) (pa_cons (pe_fld (pv 0) rfl) pa_nil))) pe_int (nomark _))))) (pss_one (ps_ret pe_bl)) pss_nil)
      (pss_one (ps_ret (pe_cmpR op_eq (pe_op op_mulW (pe_fld (pv 0) rfl) (pv 2)) (pe_op op_mulW (pv 1) (pe_fld (pv 0) rfl)) (nomark _)))))), ?_⟩
    try dsimp only [cxOf, Cx.nox, Cx.wish]
    rw [show ∀ z0 z1 z2 : V, L2.start ["_law_found", "_law_high", "_law_low"] [z0, z1, z2] = [some z0, some z1, some z2] from fun _ _ _ => rfl]
    walk_at "pb"
    refine i_isi_own T.isi_Ratio ha ?_
    walk_at "pb"
    refine i_fldR ha T.cls_Ratio T.noat_Ratio_top rfl ?_
    walk_at "pb"
    refine ⟨t, rfl, ?_⟩
    walk_at "pb"
    refine i_fldR ha T.cls_Ratio T.noat_Ratio_bottom rfl ?_
    walk_at "pb"
    refine ⟨b, rfl, ?_⟩
    walk_at "pb"
    refine i_fldR ha T.cls_Ratio T.noat_Ratio_bottom rfl ?_
    walk_at "pb"
    refine b_dec (fun z => absurd z (by omega)) (fun _ => ?_)
    walk_at "pb"
    refine i_fldR ha T.cls_Ratio T.noat_Ratio_top rfl ?_
    walk_at "pb"
    refine i_fldR ha T.cls_Ratio T.noat_Ratio_bottom rfl ?_
    walk_at "pb"
    refine ⟨t, b, rfl, ?_⟩
    walk_at "pb"
    rw [hg]
    refine b_neI (fun z => absurd rfl z) (fun _ => ?_)
    walk_at "pb"
    refine i_fldR ha T.cls_Ratio T.noat_Ratio_top rfl ?_
    walk_at "pb"
    refine i_rI (wide_mul s1 s4 (by decide) (by decide) (by decide)) ?_
    walk_at "pb"
    refine i_fldR ha T.cls_Ratio T.noat_Ratio_bottom rfl ?_
    refine i_rI (wide_mul s3 s2 (by decide) (by decide) (by decide)) ?_
    walk_at "pb"
    rw [he, decide_eq_true rfl]
    exact q
/-- v is the Ratio of hi over lo -/
def RV (K : PySem.W.Frag) (H : Hp) (v : V) (hi lo : Int) : Prop := ∃ t b, IsR K H v t b ∧ Red hi lo t b
theorem RV.keep {K : PySem.W.Frag} {H H' : Hp} {v : V} {hi lo : Int} (h : RV K H v hi lo) (k : Keep [] H H') : RV K H' v hi lo := let ⟨t, b, r, e⟩ := h; ⟨t, b, r.keep k, e⟩
theorem RV.keepL {K : PySem.W.Frag} {H H' : Hp} {v : V} {hi lo : Int} {ps : Addr} {xs : List V} (h : RV K H v hi lo) (hp : H ps = some (.lst xs)) (k : Keep [ps] H H') : RV K H' v hi lo := by
  obtain ⟨t, b, ⟨a, dx, e, ha⟩, r⟩ := h
  refine ⟨t, b, ⟨a, dx, e, k.at_ _ _ ?_ ha⟩, r⟩
  have : a ≠ ps := ne_of ha hp (fun z => nomatch z)
  simpa using this
theorem Red.conv {p q p' q' t b : Int} (h : Red p q t b) (hq : q ≠ 0) (e : p * q' = p' * q) : Red p' q' t b := by
  refine ⟨h.pos, h.low, Int.eq_of_mul_eq_mul_right hq ?_⟩
  have e1 : t * q' * q = (t * q) * q' := by walk_at "rng"
  have e2 : p' * b * q = (p' * q) * b := by walk_at "rng"
  rw [e1, e2, h.eq, ← e]
  walk_at "rng"
/-- the second operand: a Ratio, or an int over 1 -/
def RI (K : PySem.W.Frag) (H : Hp) (v : V) (hi lo : Int) : Prop := RV K H v hi lo ∨ (v = .int hi ∧ lo = 1)
section
variable {K : PySem.W.Frag} {H : Hp} {Q : VK} {E : XK} {W : WX} {σ : L2.St} {F : Int → Int → Int → Int → Int × Int} {F1 : Int → Int → Int × Int} {v1 v2 : V} {hi1 lo1 hi2 lo2 hi lo : Int}
theorem use_bin (r1 : RV K H v1 hi1 lo1) (r2 : RI K H v2 hi2 lo2) (n1 : lo1 ≠ 0) (n2 : lo2 ≠ 0) (s1 : hi1.natAbs < 2 ^ 1000) (s2 : lo1.natAbs < 2 ^ 1000) (s3 : hi2.natAbs < 2 ^ 1000) (s4 : lo2.natAbs < 2 ^ 1000)
    (alg : ∀ t b u d, t * lo1 = hi1 * b → u * lo2 = hi2 * d → (F t b u d).1 * lo = hi * (F t b u d).2) (nz : ∀ t b u d, 0 < b → 0 < d → (F t b u d).2 ≠ 0)
    (k : ∀ a H', Keep [] H H' → RV K H' (.ref a) hi lo → Q (.ref a) H') : spBin K F [v1, v2] H Q E := by
  obtain ⟨t, b, i1, e1⟩ := r1
  have st : t.natAbs < 2 ^ 1000 := Nat.lt_of_le_of_lt (e1.st n1) s1
  have sb : b.natAbs < 2 ^ 1000 := Nat.lt_of_le_of_lt (e1.sb n1) s2
  have hb : b ≠ 0 := by have := e1.pos; omega
  rcases r2 with ⟨u, d, i2, e2⟩ | ⟨rfl, rfl⟩
  · have hd : d ≠ 0 := by have := e2.pos; omega
    refine ⟨v1, v2, t, b, u, d, rfl, i1, .inl i2, st, sb, Nat.lt_of_le_of_lt (e2.st n2) s3, Nat.lt_of_le_of_lt (e2.sb n2) s4, hb, hd, fun a dx H' t' b' _ k1 ha hr => ?_⟩
    exact k a H' k1 ⟨t', b', ⟨a, dx, rfl, ha⟩, hr.conv (nz t b u d e1.pos e2.pos) (alg t b u d e1.eq e2.eq)⟩
  · refine ⟨v1, _, t, b, hi2, 1, rfl, i1, .inr ⟨rfl, rfl⟩, st, sb, s3, s4, hb, by decide, fun a dx H' t' b' _ k1 ha hr => ?_⟩
    exact k a H' k1 ⟨t', b', ⟨a, dx, rfl, ha⟩, hr.conv (nz t b hi2 1 e1.pos (by decide)) (alg t b hi2 1 e1.eq rfl)⟩
theorem use_own (r1 : RV K H v1 hi1 lo1) (r2 : RI K H v2 hi2 lo2) (n1 : lo1 ≠ 0) (n2 : lo2 ≠ 0) (s1 : hi1.natAbs < 2 ^ 1000) (s2 : lo1.natAbs < 2 ^ 1000) (s3 : hi2.natAbs < 2 ^ 1000) (s4 : lo2.natAbs < 2 ^ 1000)
    (alg : ∀ t b u d, t * lo1 = hi1 * b → u * lo2 = hi2 * d → (F t b u d).1 * lo = hi * (F t b u d).2) (nz : ∀ t b u d, 0 < b → 0 < d → (F t b u d).2 ≠ 0)
    (k : ∀ a H', Keep [] H H' → RV K H' (.ref a) hi lo → Q (.ref a) H') : rOwn (He.ga K "Ratio") (spBin K F) W σ v1 v2 H Q := by
  have h := use_bin (E := WE W σ) r1 r2 n1 n2 s1 s2 s3 s4 alg nz k
  obtain ⟨t, b, ⟨a, dx, rfl, ha⟩, e1⟩ := r1
  rcases r2 with ⟨u, d, ⟨a2, dx2, rfl, ha2⟩, e2⟩ | ⟨rfl, rfl⟩
  · exact i_own ha ha2 h
  · exact i_ownI ha h
theorem use_rown {i : Int} (r1 : RV K H v1 hi1 lo1) (n1 : lo1 ≠ 0) (s1 : hi1.natAbs < 2 ^ 1000) (s2 : lo1.natAbs < 2 ^ 1000) (s3 : i.natAbs < 2 ^ 1000)
    (alg : ∀ t b u d, t * lo1 = hi1 * b → u * 1 = i * d → (F t b u d).1 * lo = hi * (F t b u d).2) (nz : ∀ t b u d, 0 < b → 0 < d → (F t b u d).2 ≠ 0)
    (k : ∀ a H', Keep [] H H' → RV K H' (.ref a) hi lo → Q (.ref a) H') : rROwn (He.ga K "Ratio") (spBin K F) W σ (.int i) v1 H Q := by
  have h := use_bin (E := WE W σ) (v2 := .int i) r1 (.inr ⟨rfl, rfl⟩) n1 (by decide) s1 s2 s3 (by decide +kernel) alg nz k
  obtain ⟨t, b, ⟨a, dx, rfl, ha⟩, e1⟩ := r1
  exact i_rown ha h
theorem use_un (r1 : RV K H v1 hi1 lo1) (n1 : lo1 ≠ 0) (s1 : hi1.natAbs < 2 ^ 1000) (s2 : lo1.natAbs < 2 ^ 1000)
    (alg : ∀ t b, 0 < b → t * lo1 = hi1 * b → (F1 t b).1 * lo = hi * (F1 t b).2) (nz : ∀ t b, 0 < b → (F1 t b).2 ≠ 0)
    (k : ∀ a H', Keep [] H H' → RV K H' (.ref a) hi lo → Q (.ref a) H') : rOwn1 (He.ga K "Ratio") (spUn K F1) W σ v1 H Q := by
  obtain ⟨t, b, i1, e1⟩ := r1
  have i1' := i1
  obtain ⟨a, dx, rfl, ha⟩ := i1'
  refine i_own1 ha ⟨_, t, b, rfl, i1, Nat.lt_of_le_of_lt (e1.st n1) s1, Nat.lt_of_le_of_lt (e1.sb n1) s2, by have := e1.pos; omega, fun a dx H' t' b' _ k1 ha hr => ?_⟩
  exact k a H' k1 ⟨t', b', ⟨a, dx, rfl, ha⟩, hr.conv (nz t b e1.pos) (alg t b e1.pos e1.eq)⟩
theorem use_makeR {p q : Int} (hz : q ≠ 0) (s1 : p.natAbs < 2 ^ 1000) (s2 : q.natAbs < 2 ^ 1000) (h : ∀ a H', Keep [] H H' → RV K H' (.ref a) p q → Q (.ref a) H') : NewI (He.ga K "Ratio") (spInit K) [.int p, .int q] E H Q :=
  use_make hz (pow_mono s1 (by decide)) (pow_mono s2 (by decide)) fun a dx H' t b _ k ha hr => h a H' k ⟨t, b, ⟨a, dx, rfl, ha⟩, hr⟩
end
theorem mulP {i j : Int} (hi : i.natAbs < 2 ^ 150) (hj : j.natAbs < 2 ^ 150) : CMulW i j := wide_mul hi hj (by decide) (by decide) (by decide)
theorem b1 {i : Int} (h : i.natAbs < 2 ^ 150) : i.natAbs < 2 ^ 1000 := pow_mono h (by decide)
theorem b2 {i j : Int} (h : i.natAbs < 2 ^ 150) (g : j.natAbs < 2 ^ 150) : (i * j).natAbs < 2 ^ 1000 := pow_mono (wide_lt h g) (by decide)
theorem b3 {i j k l : Int} (h : i.natAbs < 2 ^ 150) (g : j.natAbs < 2 ^ 150) (h' : k.natAbs < 2 ^ 150) (g' : l.natAbs < 2 ^ 150) : (i * j + k * l).natAbs < 2 ^ 1000 := pow_mono (add_lt (wide_lt h g) (wide_lt h' g')) (by decide)
theorem b4 {i j k l : Int} (h : i.natAbs < 2 ^ 150) (g : j.natAbs < 2 ^ 150) (h' : k.natAbs < 2 ^ 150) (g' : l.natAbs < 2 ^ 150) : (i * j - k * l).natAbs < 2 ^ 1000 := pow_mono (sub_lt (wide_lt h g) (wide_lt h' g')) (by decide)
theorem b5 {i k l : Int} (h : i.natAbs < 2 ^ 150) (h' : k.natAbs < 2 ^ 150) (g' : l.natAbs < 2 ^ 150) : (i + k * l).natAbs < 2 ^ 1000 := pow_mono (add_lt (pow_mono h (by decide)) (wide_lt h' g')) (by decide)
theorem b6 {i k l : Int} (h : i.natAbs < 2 ^ 150) (h' : k.natAbs < 2 ^ 150) (g' : l.natAbs < 2 ^ 150) : (i - k * l).natAbs < 2 ^ 1000 := pow_mono (sub_lt (pow_mono h (by decide)) (wide_lt h' g')) (by decide)
theorem b7 {i k l : Int} (h : i.natAbs < 2 ^ 150) (h' : k.natAbs < 2 ^ 150) (g' : l.natAbs < 2 ^ 150) : (k * l - i).natAbs < 2 ^ 1000 := pow_mono (sub_lt (wide_lt h' g') (pow_mono h (by decide))) (by decide)
local macro_rules | `(tactic| walk_at "pm") => `(tactic| repeat (first | walk_at "pb1" | (with_reducible refine PB.i_rI (mulP (by assumption) (by assumption)) ?_)))
theorem alg_abs {t b l h : Int} (hb : 0 < b) (e : t * l = h * b) : (if t < 0 then -t else t) * (if l < 0 then -l else l) = (if h < 0 then -h else h) * b := by
  rw [abs_e, abs_e, abs_e]
  have e1 : t.natAbs * l.natAbs = h.natAbs * b.natAbs := by rw [← Int.natAbs_mul, ← Int.natAbs_mul, e]
  have e2 : (b.natAbs : Int) = b := by omega
  rw [← e2]
  exact_mod_cast e1
theorem abs_ne {l : Int} (h : l ≠ 0) : (if l < 0 then -l else l) ≠ 0 := by omega
theorem abs_lt {l : Int} (h : l.natAbs < 2 ^ 150) : (if l < 0 then -l else l).natAbs < 2 ^ 1000 := by
  rw [abs_e]
  exact pow_mono h (by decide)
theorem nzM {t b u d : Int} (hb : 0 < b) (hd : 0 < d) : b * d ≠ 0 := Int.mul_ne_zero (by omega) (by omega)
theorem alg_add {t b u d h1 l1 h2 l2 : Int} (e1 : t * l1 = h1 * b) (e2 : u * l2 = h2 * d) : (t * d + u * b) * (l1 * l2) = (h1 * l2 + h2 * l1) * (b * d) := by
  have e : (t * d + u * b) * (l1 * l2) = (t * l1) * (d * l2) + (u * l2) * (b * l1) := by walk_at "rng"
  rw [e, e1, e2]
  walk_at "rng"
theorem alg_sub {t b u d h1 l1 h2 l2 : Int} (e1 : t * l1 = h1 * b) (e2 : u * l2 = h2 * d) : (t * d - u * b) * (l1 * l2) = (h1 * l2 - h2 * l1) * (b * d) := by
  have e : (t * d - u * b) * (l1 * l2) = (t * l1) * (d * l2) - (u * l2) * (b * l1) := by walk_at "rng"
  rw [e, e1, e2]
  walk_at "rng"
theorem alg_mul {t b u d h1 l1 h2 l2 : Int} (e1 : t * l1 = h1 * b) (e2 : u * l2 = h2 * d) : (t * u) * (l1 * l2) = (h1 * h2) * (b * d) := by
  have e : (t * u) * (l1 * l2) = (t * l1) * (u * l2) := by walk_at "rng"
  rw [e, e1, e2]
  walk_at "rng"
theorem alg_rsub {t b u d h1 l1 h2 l2 : Int} (e1 : t * l1 = h1 * b) (e2 : u * l2 = h2 * d) : (u * b - t * d) * (l1 * l2) = (h2 * l1 - h1 * l2) * (b * d) := by
  have e : (u * b - t * d) * (l1 * l2) = (u * l2) * (b * l1) - (t * l1) * (d * l2) := by walk_at "rng"
  rw [e, e1, e2]
  walk_at "rng"

/-- self // other -/
def spFdiv (K : PySem.W.Frag) : Sp := fun vs H Q E => ∃ (v1 v2 : V) (hi1 lo1 hi2 lo2 : Int), vs = [v1, v2] ∧ RV K H v1 hi1 lo1 ∧ RI K H v2 hi2 lo2 ∧ lo1 ≠ 0 ∧ lo2 ≠ 0 ∧ hi1.natAbs < 2 ^ 1000 ∧ lo1.natAbs < 2 ^ 1000 ∧ hi2.natAbs < 2 ^ 1000 ∧ lo2.natAbs < 2 ^ 1000 ∧
  (hi2 = 0 → ∀ H', Keep [] H H' → E (.type "ZeroDivisionError") none H') ∧ (hi2 ≠ 0 → ∀ H', Keep [] H H' → Q (.int ((hi1 * lo2).fdiv (lo1 * hi2))) H')
/-- the fraction that stands behind an operand -/
theorem RI.fr {K : PySem.W.Frag} {H : Hp} {v : V} {hi lo : Int} (r : RI K H v hi lo) (n : lo ≠ 0) : ∃ u d, FrV K H v u d ∧ 0 < d ∧ u * lo = hi * d ∧ u.natAbs ≤ hi.natAbs ∧ d.natAbs ≤ lo.natAbs := by
  rcases r with ⟨u, d, i, e⟩ | ⟨rfl, rfl⟩
  · exact ⟨u, d, .inl i, e.pos, e.eq, e.st n, e.sb n⟩
  · exact ⟨hi, 1, .inr ⟨rfl, rfl⟩, by decide, rfl, Nat.le_refl _, Nat.le_refl _⟩
theorem num0 {u lo hi d : Int} (e : u * lo = hi * d) (n : lo ≠ 0) (hd : 0 < d) : u = 0 ↔ hi = 0 := by
  constructor
  · rintro rfl
    rw [Int.zero_mul] at e
    rcases Int.mul_eq_zero.mp e.symm with h | h
    · exact h
    · omega
  · rintro rfl
    rw [Int.zero_mul] at e
    rcases Int.mul_eq_zero.mp e with h | h
    · exact h
    · exact absurd h n
theorem ok_Ratio_DfloordivD {P : Program} {w : World} {K : PySem.W.Frag} {mg : Str → Option Value} {base : Heap} (T : Tx K mg) : OkM P w K mg base (L2.CX P w) 3 "Ratio" "__floordiv__" ["self", "other"] [] ((spFdiv K)) := by
  obtain ⟨fd, F⟩ := T.d_Ratio_DfloordivD
  refine ⟨fd, [], F.ok sc_Ratio_DfloordivD (fun vs H Q E h => ?len) (fun cdv A outer s H vs Q E hr h => ?body), T.cls_Ratio, T.meth_Ratio_DfloordivD, F.bindsN fun _ _ _ _ _ _ us hl => match us, hl with | [_, _], _ => rfl, .nil⟩
  case len =>
    obtain ⟨v1, v2, hi1, lo1, hi2, lo2, rfl, _⟩ := h
    rfl
  case body =>
    have O_fraction := ok_fraction (P := P) (w := w) (base := base) T
    obtain ⟨v1, v2, hi1, lo1, hi2, lo2, rfl, ⟨t, b, ⟨ax, dx, rfl, hx⟩, e1⟩, r2, n1, n2, s1, s2, s3, s4, h0, h1⟩ := h
    obtain ⟨u, d, hv, hd, e2, z1, z2⟩ := r2.fr n2
    have st : t.natAbs < 2 ^ 1000 := Nat.lt_of_le_of_lt (e1.st n1) s1
    have sb : b.natAbs < 2 ^ 1000 := Nat.lt_of_le_of_lt (e1.sb n1) s2
    have su : u.natAbs < 2 ^ 1000 := Nat.lt_of_le_of_lt z1 s3
    have sd : d.natAbs < 2 ^ 1000 := Nat.lt_of_le_of_lt z2 s4
    have hb : b ≠ 0 := by have := e1.pos; omega
    refine ⟨_, (pss_cons (ps_asg (PB.pe_callF O_fraction (hr.mono (by decide)) pas0 (pa_cons (pv 1) pa_nil)) (pg_tup rfl (pgs_cons (pg_name (i := 2) sc_Ratio_DfloordivD.nd rfl (Or.inl rfl)) (pgs_cons (pg_name (i := 3) sc_Ratio_DfloordivD.nd rfl (Or.inl rfl)) pgs_nil))))
      (pss_cons (ps_if (pt_cmpR op_eq (pv 2) pe_int (nomark _)) (pss_one (ps_raiseB rfl (takes_of rfl rfl rfl rfl) exb_ZeroDivisionError (by rfl) T.f_ZeroDivisionError boot_ZeroDivisionError)) pss_nil)
      (pss_one (ps_ret (pe_op PB.op_fdivG (pe_op op_mulW (pe_fld (pv 0) rfl) (pv 3)) (pe_op op_mulW (pe_fld (pv 0) rfl) (pv 2))))))), ?_⟩
    try dsimp only [cxOf, Cx.nox, Cx.wish]
    rw [show ∀ z0 z1 : V, L2.start ["self", "other", "top", "bottom"] [z0, z1] = [some z0, some z1, none, none] from fun _ _ => rfl]
    walk_at "pb"
    refine ⟨v2, u, d, rfl, hv, fun p H1 k1 hp => ?_⟩
    replace hx := k1.at_ _ _ (by simp) hx
    refine i_gtup (SqT.of hp) rfl ?_
    walk_at "pb"
    refine b_eqI (fun hz => h0 ((num0 e2 n2 hd).mp hz) _ k1) (fun hz => ?_)
    have hz2 : hi2 ≠ 0 := fun z => hz ((num0 e2 n2 hd).mpr z)
    walk_at "pb"
    refine i_fldR hx T.cls_Ratio T.noat_Ratio_top rfl ?_
    walk_at "pb"
    refine i_rI (mul2 st sd) ?_
    walk_at "pb"
    refine i_fldR hx T.cls_Ratio T.noat_Ratio_bottom rfl ?_
    walk_at "pb"
    refine i_rI (mul2 sb su) ?_
    refine i_rI ⟨Int.mul_ne_zero hb hz, pow_mono (mul2_lt sb su) (by decide)⟩ ?_
    have e : (t * d).fdiv (b * u) = (hi1 * lo2).fdiv (lo1 * hi2) := by
      refine fdiv_cross (Int.mul_ne_zero hb hz) (Int.mul_ne_zero n1 hz2) ?_
      have a1 : t * d * (lo1 * hi2) = (t * lo1) * (hi2 * d) := by walk_at "rng"
      have a2 : hi1 * lo2 * (b * u) = (hi1 * b) * (u * lo2) := by walk_at "rng"
      rw [a1, a2, e1.eq, e2]
    rw [e]
    exact h1 hz2 _ k1
/-- self % other -/
def spMod (K : PySem.W.Frag) : Sp := fun vs H Q E => ∃ (v1 v2 : V) (hi1 lo1 hi2 lo2 : Int), vs = [v1, v2] ∧ RV K H v1 hi1 lo1 ∧ RI K H v2 hi2 lo2 ∧ lo1 ≠ 0 ∧ lo2 ≠ 0 ∧ hi1.natAbs < 2 ^ 300 ∧ lo1.natAbs < 2 ^ 300 ∧ hi2.natAbs < 2 ^ 300 ∧ lo2.natAbs < 2 ^ 300 ∧
  (hi2 = 0 → ∀ H', Keep [] H H' → E (.type "ZeroDivisionError") none H') ∧ (hi2 ≠ 0 → ∀ a H', Keep [] H H' → RV K H' (.ref a) (hi1 * lo2 - (hi1 * lo2).fdiv (lo1 * hi2) * hi2 * lo1) (lo1 * lo2) → Q (.ref a) H')
theorem RI.keep {K : PySem.W.Frag} {H H' : Hp} {v : V} {hi lo : Int} (r : RI K H v hi lo) (k : Keep [] H H') : RI K H' v hi lo := r.elim (fun r => .inl (r.keep k)) .inr
theorem RV.own {K : PySem.W.Frag} {H : Hp} {v1 v2 : V} {a1 b1 a2 b2 : Int} {sp : Sp} {W : WX} {σ : L2.St} {Q : VK} (r1 : RV K H v1 a1 b1) (r2 : RI K H v2 a2 b2) (h : sp [v1, v2] H Q (WE W σ)) : rOwn (He.ga K "Ratio") sp W σ v1 v2 H Q := by
  obtain ⟨t, b, ⟨a, dx, rfl, ha⟩, e1⟩ := r1
  rcases r2 with ⟨u, d, ⟨a2, dx2, rfl, ha2⟩, e2⟩ | ⟨rfl, rfl⟩
  · exact i_own ha ha2 h
  · exact i_ownI ha h
theorem ok_Ratio_DmodD {P : Program} {w : World} {K : PySem.W.Frag} {mg : Str → Option Value} {base : Heap} (T : Tx K mg) : OkM P w K mg base (L2.CX P w) 6 "Ratio" "__mod__" ["self", "other"] [] ((spMod K)) := by
  obtain ⟨fd, F⟩ := T.d_Ratio_DmodD
  refine ⟨fd, [], F.ok sc_Ratio_DmodD (fun vs H Q E h => ?len) (fun cdv A outer s H vs Q E hr h => ?body), T.cls_Ratio, T.meth_Ratio_DmodD, F.bindsN fun _ _ _ _ _ _ us hl => match us, hl with | [_, _], _ => rfl, .nil⟩
  case len =>
    obtain ⟨v1, v2, hi1, lo1, hi2, lo2, rfl, _⟩ := h
    rfl
  case body =>
    have O_Ratio_DfloordivD := ok_Ratio_DfloordivD (P := P) (w := w) (base := base) T
    have O_Ratio_DmulD := ok_Ratio_DmulD (P := P) (w := w) (base := base) T
    have O_Ratio_DsubD := ok_Ratio_DsubD (P := P) (w := w) (base := base) T
    obtain ⟨v1, v2, hi1, lo1, hi2, lo2, rfl, r1, r2, n1, n2, s1, s2, s3, s4, h0, h1⟩ := h
    refine ⟨_, (pss_one (ps_ret (pe_opS (op_own O_Ratio_DsubD T.own_Ratio (rv_meth T.meth_Ratio_DrsubD) (hr.mono (by decide)) pas0 PySem.F.fills_int_sub tk_sub) (pv 0) (pe_opS (opS_or (op_own O_Ratio_DmulD T.own_Ratio (rv_meth T.meth_Ratio_DrmulD) (hr.mono (by decide)) pas0 PySem.F.fills_int_mul tk_mul) (opS_of op_mulW)) (pv 1) (pe_opS (op_own O_Ratio_DfloordivD T.own_Ratio T.rv_rfloordiv (hr.mono (by decide)) (pasT (takes_of rfl rfl rfl rfl)) PySem.F.fills_int_floordiv tk_fdiv) (pv 0) (pv 1)))))), ?_⟩
    try dsimp only [cxOf, Cx.nox, Cx.wish]
    rw [show ∀ z0 z1 : V, L2.start ["self", "other"] [z0, z1] = [some z0, some z1] from fun _ _ => rfl]
    walk_at "pb"
    refine r1.own r2 ⟨_, _, hi1, lo1, hi2, lo2, rfl, r1, r2, n1, n2, sz_mono s1 (by decide), sz_mono s2 (by decide), sz_mono s3 (by decide), sz_mono s4 (by decide), h0, fun hz H1 k1 => ?_⟩
    replace r1 := r1.keep k1
    replace r2 := r2.keep k1
    generalize hq : (hi1 * lo2).fdiv (lo1 * hi2) = q at h1
    have sq : q.natAbs < 2 ^ 600 := by
      rw [← hq]
      exact Nat.lt_of_le_of_lt (sz_fdiv _ _) (sz_mul s1 s4 (by decide))
    walk_at "pb"
    rcases r2 with r2 | ⟨rfl, rfl⟩
    · refine .inl (use_own (hi := q * hi2) (lo := lo2) r2 (.inr ⟨rfl, rfl⟩) n2 (by decide) (sz_mono s3 (by decide)) (sz_mono s4 (by decide)) (sz_mono sq (by decide)) (by decide +kernel) (fun t b u d a1 a2 => ?_) (fun t b u d hb hd => ?_) fun a H2 k2 r3 => ?_)
      · rw [Int.mul_one] at a2
        subst a2
        show t * (q * d) * lo2 = q * hi2 * (b * d)
        have z1 : t * (q * d) * lo2 = (t * lo2) * (q * d) := by walk_at "rng"
        rw [z1, a1]
        walk_at "rng"
      · exact nzM (t := t) (u := u) hb hd
      · refine use_own (hi := hi1 * lo2 - q * hi2 * lo1) (lo := lo1 * lo2) (r1.keep k2) (.inl r3) n1 n2 (sz_mono s1 (by decide)) (sz_mono s2 (by decide)) (sz_mul sq s3 (by decide)) (sz_mono s4 (by decide)) (fun t b u d a1 a2 => ?_) (fun t b u d hb hd => nzM (t := t) (u := u) hb hd) fun a' H3 k3 r4 => ?_
        · exact alg_sub a1 a2
        · exact h1 hz a' H3 ((k1.trans k2).trans k3) r4
    · refine .inr (i_rI (wide_mul s3 sq (by decide) (by decide) (by decide)) ?_)
      refine use_own (hi := hi1 * 1 - q * hi2 * lo1) (lo := lo1 * 1) r1 (.inr ⟨rfl, rfl⟩) n1 (by decide) (sz_mono s1 (by decide)) (sz_mono s2 (by decide)) (sz_mul s3 sq (by decide)) (by decide +kernel) (fun t b u d a1 a2 => ?_) (fun t b u d hb hd => nzM (t := t) (u := u) hb hd) fun a' H3 k3 r4 => ?_
      · rw [Int.mul_comm q hi2]
        exact alg_sub a1 a2
      · exact h1 hz a' H3 (k1.trans k3) r4
/-- self.over(other) -/
def spOver (K : PySem.W.Frag) : Sp := fun vs H Q E => ∃ (v1 v2 : V) (hi1 lo1 hi2 lo2 : Int), vs = [v1, v2] ∧ RV K H v1 hi1 lo1 ∧ RI K H v2 hi2 lo2 ∧ lo1 ≠ 0 ∧ lo2 ≠ 0 ∧ hi1.natAbs < 2 ^ 1000 ∧ lo1.natAbs < 2 ^ 1000 ∧ hi2.natAbs < 2 ^ 1000 ∧ lo2.natAbs < 2 ^ 1000 ∧
  (hi2 = 0 → ∀ H', Keep [] H H' → E (.type "ZeroDivisionError") none H') ∧ (hi2 ≠ 0 → ∀ a H', Keep [] H H' → RV K H' (.ref a) (hi1 * lo2) (lo1 * hi2) → Q (.ref a) H')
theorem ok_Ratio_over {P : Program} {w : World} {K : PySem.W.Frag} {mg : Str → Option Value} {base : Heap} (T : Tx K mg) : OkM P w K mg base (L2.CX P w) 4 "Ratio" "over" ["self", "other"] [] ((spOver K)) := by
  obtain ⟨fd, F⟩ := T.d_Ratio_over
  refine ⟨fd, [], F.ok sc_Ratio_over (fun vs H Q E h => ?len) (fun cdv A outer s H vs Q E hr h => ?body), T.cls_Ratio, T.meth_Ratio_over, F.bindsN fun _ _ _ _ _ _ us hl => match us, hl with | [_, _], _ => rfl, .nil⟩
  case len =>
    obtain ⟨v1, v2, hi1, lo1, hi2, lo2, rfl, _⟩ := h
    rfl
  case body =>
    have O_fraction := ok_fraction (P := P) (w := w) (base := base) T
    have O_Ratio := ok_Ratio_DinitD_all (P := P) (w := w) (base := base) T
    obtain ⟨v1, v2, hi1, lo1, hi2, lo2, rfl, ⟨t, b, ⟨ax, dx, rfl, hx⟩, e1⟩, r2, n1, n2, s1, s2, s3, s4, h0, h1⟩ := h
    obtain ⟨u, d, hv, hd, e2, z1, z2⟩ := r2.fr n2
    have st : t.natAbs < 2 ^ 1000 := Nat.lt_of_le_of_lt (e1.st n1) s1
    have sb : b.natAbs < 2 ^ 1000 := Nat.lt_of_le_of_lt (e1.sb n1) s2
    have su : u.natAbs < 2 ^ 1000 := Nat.lt_of_le_of_lt z1 s3
    have sd : d.natAbs < 2 ^ 1000 := Nat.lt_of_le_of_lt z2 s4
    have hb : b ≠ 0 := by have := e1.pos; omega
    refine ⟨_, (pss_cons (ps_asg (PB.pe_callF O_fraction (hr.mono (by decide)) pas0 (pa_cons (pv 1) pa_nil)) (pg_tup rfl (pgs_cons (pg_name (i := 2) sc_Ratio_over.nd rfl (Or.inl rfl)) (pgs_cons (pg_name (i := 3) sc_Ratio_over.nd rfl (Or.inl rfl)) pgs_nil))))
      (pss_one (ps_ret (PB.pe_makeF O_Ratio (hr.mono (by decide)) (pasT (takes_of rfl rfl rfl rfl)) (pa_cons (pe_op op_mulW (pe_fld (pv 0) rfl) (pv 3)) (pa_cons (pe_op op_mulW (pe_fld (pv 0) rfl) (pv 2)) pa_nil)))))), ?_⟩
    try dsimp only [cxOf, Cx.nox, Cx.wish]
    rw [show ∀ z0 z1 : V, L2.start ["self", "other", "top", "bottom"] [z0, z1] = [some z0, some z1, none, none] from fun _ _ => rfl]
    walk_at "pb"
    refine ⟨v2, u, d, rfl, hv, fun p H1 k1 hp => ?_⟩
    replace hx := k1.at_ _ _ (by simp) hx
    refine i_gtup (SqT.of hp) rfl ?_
    walk_at "pb"
    refine i_fldR hx T.cls_Ratio T.noat_Ratio_top rfl ?_
    walk_at "pb"
    refine i_rI (mul2 st sd) ?_
    walk_at "pb"
    refine i_fldR hx T.cls_Ratio T.noat_Ratio_bottom rfl ?_
    walk_at "pb"
    refine i_rI (mul2 sb su) ?_
    walk_at "pb"
    refine i_newI fun x dx' H2 hx' k2 hx2 => ?_
    refine ⟨x, dx', _, _, rfl, hx2, sz_mul st sd (by decide), sz_mul sb su (by decide), fun z => ?_, fun z H3 t' b' k3 h3 hr => ⟨rfl, ?_⟩⟩
    · have hu : u = 0 := by
        rcases Int.mul_eq_zero.mp z with h | h
        · exact absurd h hb
        · exact h
      exact h0 ((num0 e2 n2 hd).mp hu) _ (k1.trans k2)
    · have hu : u ≠ 0 := fun h => z (by rw [h, Int.mul_zero])
      have hz2 : hi2 ≠ 0 := fun z => hu ((num0 e2 n2 hd).mpr z)
      refine h1 hz2 x H3 (k1.trans (k2.fresh1 hx' k3)) ⟨t', b', ⟨x, dx', rfl, h3⟩, hr.conv z ?_⟩
      have a1 : t * d * (lo1 * hi2) = (t * lo1) * (hi2 * d) := by walk_at "rng"
      have a2 : hi1 * lo2 * (b * u) = (hi1 * b) * (u * lo2) := by walk_at "rng"
      rw [a1, a2, e1.eq, e2]
def spRef2 (K : PySem.W.Frag) : Sp := fun vs H Q _ => ∃ (v1 v2 : V) (hi1 lo1 lo2 way : Int), vs = [v1, v2, .int way] ∧ RV K H v1 hi1 lo1 ∧ RI K H v2 0 lo2 ∧ lo1 ≠ 0 ∧ lo2 ≠ 0 ∧ hi1.natAbs < 2 ^ 300 ∧ lo1.natAbs < 2 ^ 300 ∧ lo2.natAbs < 2 ^ 300 ∧ ∀ H', Keep [] H H' → Q (.bl true) H'
theorem RV.meth {K : PySem.W.Frag} {H : Hp} {v : V} {hi lo : Int} {m : Str} {G : Prop} (r : RV K H v hi lo) (h : G) (hm : ∀ t b, (rf t b).lookup m = none := by intros; rfl) : GetM (He.ga K "Ratio") m v H G := by
  obtain ⟨t, b, ⟨a, dx, rfl, ha⟩, e1⟩ := r
  exact i_methR ha (hm t b) h
theorem ok_l_refused {P : Program} {w : World} {K : PySem.W.Frag} {mg : Str → Option Value} {base : Heap} (T : Tx K mg) : OkF P w K mg base CX0 7 "_law_refused" ["_law_one", "_law_zero", "_law_way"] [] ((spRef2 K)) := by
  obtain ⟨fd, F⟩ := T.d_l_refused
  refine ⟨fd, [], F.ok sc_l_refused (fun vs H Q E h => ?len) (fun cdv A outer s H vs Q E hr h => ?body), T.g_l_refused, F.kp, F.bindsN fun _ _ _ _ _ _ us hl => match us, hl with | [_, _, _], _ => rfl, .nil⟩
  case len =>
    obtain ⟨v1, v2, hi1, lo1, lo2, way, rfl, _⟩ := h
    rfl
  case body =>
    have O_Ratio_over := ok_Ratio_over (P := P) (w := w) (base := base) T
    have O_Ratio_DfloordivD := ok_Ratio_DfloordivD (P := P) (w := w) (base := base) T
    have O_Ratio_DmodD := ok_Ratio_DmodD (P := P) (w := w) (base := base) T
    obtain ⟨v1, v2, hi1, lo1, lo2, way, rfl, r1, r2, n1, n2, s1, s2, s4, q⟩ := h
    refine ⟨_, PSs.nox (pss_cons (ps_try_only (tb := fun W => (tIfS (tTest (tOp rEq (tVar 2) (tC (.int 0)))) (tAsg (tOpS (rOwn (He.ga K "Ratio") (spFdiv K) W) (tVar 0) (tVar 1)) (gName 3)) (tIfS (tTest (tOp rEq (tVar 2) (tC (.int 1)))) (tAsg (tOpS (rOwn (He.ga K "Ratio") (spMod K) W) (tVar 0) (tVar 1)) (gName 3)) (tAsg (tMethG (He.ga K "Ratio") "over" (spOver K) [] W (tVar 0) (tCons (tVar 1) tNil)) (gName 3))))) (ts := fun a cls d => (tRet (tC (.bl true)))) rfl rfl (names_blt (by rfl) T.f_ZeroDivisionError boot_ZeroDivisionError) takes0 (fun W pn xe tk _ => by exact (pss_one (ps_if (pt_cmpR op_eq (pv 2) pe_int (nomark _)) (pss_one (ps_set (i := 3) sc_l_refused.nd rfl (Or.inl rfl) (pe_opS (op_own O_Ratio_DfloordivD T.own_Ratio T.rv_rfloordiv (hr.mono (by decide)) (pasT tk) PySem.F.fills_int_floordiv tk_fdiv) (pv 0) (pv 1)))) (pss_one (ps_if (pt_cmpR op_eq (pv 2) pe_int (nomark _)) (pss_one (ps_set (i := 3) sc_l_refused.nd rfl (Or.inl rfl) (pe_opS (op_own O_Ratio_DmodD T.own_Ratio T.rv_rmod (hr.mono (by decide)) (pasT tk) PySem.F.fills_int_mod tk_mod) (pv 0) (pv 1)))) (pss_one (ps_set (i := 3) sc_l_refused.nd rfl (Or.inl rfl) (PB.pe_methF O_Ratio_over (hr.mono (by decide)) (pasT tk) (pv 0) (pa_cons (pv 1) pa_nil))))))))) (fun a oe cls d pn _ _ => by exact (pss_one (ps_ret pe_bl))))
      (pss_one (ps_ret pe_bl))), ?_⟩
    try dsimp only [cxOf, Cx.nox, Cx.wish]
    rw [show ∀ z0 z1 z2 : V, L2.start ["_law_one", "_law_zero", "_law_way", "_law_found"] [z0, z1, z2] = [some z0, some z1, some z2, none] from fun _ _ _ => rfl]
    walk_at "pb"
    have out : ∀ H', Keep [] H H' → WE (wOnly K (Value.type "ZeroDivisionError") (fun a cls d => tRet (tC (V.bl true))) (fun _ _ _ _ => False) { nx := tRet (tC (V.bl false)) { nx := fun _ H' => Q V.non H', rt := Q }, rt := Q }) [some v1, some v2, some (V.int way), none] (.type "ZeroDivisionError") none H' := fun H' k => ⟨true, by kernel_rfl, fun _ a ha => q _ k, fun z => nomatch z⟩
    refine b_eqI (fun hw => ?_) (fun hw => ?_)
    · walk_at "pb"
      exact r1.own r2 ⟨_, _, hi1, lo1, 0, lo2, rfl, r1, r2, n1, n2, sz_mono s1 (by decide), sz_mono s2 (by decide), by decide +kernel, sz_mono s4 (by decide), fun _ => out, fun z => absurd rfl z⟩
    · walk_at "pb"
      refine b_eqI (fun hw => ?_) (fun hw => ?_)
      · walk_at "pb"
        exact r1.own r2 ⟨_, _, hi1, lo1, 0, lo2, rfl, r1, r2, n1, n2, s1, s2, by decide +kernel, s4, fun _ => out, fun z => absurd rfl z⟩
      · walk_at "pb"
        refine r1.meth ?_
        walk_at "pb"
        exact ⟨_, _, hi1, lo1, 0, lo2, rfl, r1, r2, n1, n2, sz_mono s1 (by decide), sz_mono s2 (by decide), by decide +kernel, sz_mono s4 (by decide), fun _ => out, fun z => absurd rfl z⟩
theorem RV.isMR {K : PySem.W.Frag} {H : Hp} {v : V} {hi lo : Int} {Q : VK} {E : XK} (r : RV K H v hi lo) (n : lo ≠ 0) (s1 : hi.natAbs < 2 ^ 2500) (s2 : lo.natAbs < 2 ^ 2500) (h : Q (.bl true) H) : spMR K [v, .int hi, .int lo] H Q E :=
  let ⟨t, b, i, e⟩ := r; ⟨v, t, b, hi, lo, rfl, i, e.pos, e.low, e.eq, Nat.lt_of_le_of_lt (e.st n) s1, Nat.lt_of_le_of_lt (e.sb n) s2, s1, s2, h⟩
theorem RV.keepS {K : PySem.W.Frag} {H H' : Hp} {v : V} {hi lo : Int} {S l : Addr} {n : Nat} (r : RV K H v hi lo) (hS : Stm S l n H) (k : Keep [S, l] H H') : RV K H' v hi lo := by
  obtain ⟨t, b, ⟨a, dx, e, ha⟩, r⟩ := r
  exact ⟨t, b, ⟨a, dx, e, k.at_ _ _ (hS.off ha (fun _ z => nomatch z)) ha⟩, r⟩
def spLaw (K : PySem.W.Frag) : Sp := fun vs H Q _ => ∃ (a : Addr) (ns : List Int), vs = [.ref a] ∧ SqL K H a (ns.map V.int) ∧ ns.length ≤ 63 ∧ ∀ H', Q (.bl true) H'
theorem ok_law {P : Program} {w : World} {K : PySem.W.Frag} {mg : Str → Option Value} {base : Heap} (T : Tx K mg) {fd : FuncData} (F : FunD K "law" "law" (defArgs (topS 12)) (defBody (topS 12)) (defScope (topS 12)) [] [] (He.ga K "law") fd) : FnOk P w K mg base CX0 8 (He.ga K "law") fd ["_law_script"] (spLaw K) := by
  refine F.ok sc_law (fun vs H Q E h => ?len) (fun cdv A outer s H vs Q E hr h => ?body)
  case len =>
    obtain ⟨a, ns, rfl, _⟩ := h
    rfl
  case body =>
    have O_l_start := ok_l_start (P := P) (w := w) (base := base) T
    have O_l_m_number := ok_l_m_number (P := P) (w := w) (base := base) T
    have O_l_draw := ok_l_draw (P := P) (w := w) (base := base) T
    have O_Ratio := ok_Ratio_DinitD_all (P := P) (w := w) (base := base) T
    have O_l_refused := ok_l_refused (P := P) (w := w) (base := base) T
    have O_l_m_whole := ok_l_m_whole (P := P) (w := w) (base := base) T
    have O_l_m_ratio := ok_l_m_ratio (P := P) (w := w) (base := base) T
    have O_Ratio_over := ok_Ratio_over (P := P) (w := w) (base := base) T
    have O_Ratio_DfloordivD := ok_Ratio_DfloordivD (P := P) (w := w) (base := base) T
    have O_Ratio_DmodD := ok_Ratio_DmodD (P := P) (w := w) (base := base) T
    obtain ⟨a, ns, rfl, hs, hl, q⟩ := h
    refine ⟨_, PSs.nox (pss_cons (ps_set (i := 1) sc_law.nd rfl (Or.inl rfl) (PB.pe_callF O_l_start (hr.mono (by decide)) pas0 (pa_cons (pv 0) pa_nil)))
      (pss_cons (ps_par (i := 2) (j := 3) (by rfl) sc_law.nd rfl rfl (by decide) rfl rfl (pa_cons (PB.pe_callF O_l_m_number (hr.mono (by decide)) pas0 (pa_cons (pv 1) pa_nil)) (pa_cons (PB.pe_callF O_l_m_number (hr.mono (by decide)) pas0 (pa_cons (pv 1) pa_nil)) pa_nil)) (by rfl))
      (pss_cons (ps_par (i := 4) (j := 5) (by rfl) sc_law.nd rfl rfl (by decide) rfl rfl (pa_cons (PB.pe_callF O_l_m_number (hr.mono (by decide)) pas0 (pa_cons (pv 1) pa_nil)) (pa_cons (PB.pe_callF O_l_m_number (hr.mono (by decide)) pas0 (pa_cons (pv 1) pa_nil)) pa_nil)) (by rfl))
      (C8.pss_cut (ps_par (i := 3) (j := 4) (by rfl) sc_law.nd rfl rfl (by decide) rfl rfl (pa_cons (pe_ifExp (pt_cmpR op_ne (pv 3) pe_int (nomark _)) (pv 3) pe_int) (pa_cons (pe_ifExp (pt_cmpR op_ne (pv 4) pe_int (nomark _)) (pv 4) (pe_un un_neg pe_int)) pa_nil)) (by rfl))
      (C8.pss_cut (ps_set (i := 5) sc_law.nd rfl (Or.inl rfl) (pe_ifExp (pt_cmpR op_ne (pv 5) pe_int (nomark _)) (pv 5) pe_int))
      (C8.pss_cut (ps_if (pt_cmpR op_eq (PB.pe_callF O_l_draw (hr.mono (by decide)) pas0 (pa_cons (pv 1) (pa_cons pe_int pa_nil))) pe_int (nomark _)) (pss_one (ps_set (i := 2) sc_law.nd rfl (Or.inl rfl) (pe_op op_mulW (pv 2) (pv 4)))) pss_nil)
      (pss_cons (ps_par (i := 6) (j := 7) (by rfl) sc_law.nd rfl rfl (by decide) rfl rfl (pa_cons (PB.pe_makeF O_Ratio (hr.mono (by decide)) (pasT takes0) (pa_cons (pv 2) (pa_cons (pv 3) pa_nil))) (pa_cons (PB.pe_makeF O_Ratio (hr.mono (by decide)) (pasT takes0) (pa_cons (pv 4) (pa_cons (pv 5) pa_nil))) pa_nil)) (by rfl))
      (C8.pss_cut (ps_if (pt_cmpR op_eq (PB.pe_callF O_l_draw (hr.mono (by decide)) pas0 (pa_cons (pv 1) (pa_cons pe_int pa_nil))) pe_int (nomark _)) (pss_one (ps_par (i := 7) (j := 5) (by rfl) sc_law.nd rfl rfl (by decide) rfl rfl (pa_cons (pv 4) (pa_cons pe_int pa_nil)) (by rfl))) pss_nil)
      (pss_cons (ps_for PassesOwn.never rfl (pi_tup (pe_tup (pa_cons pe_int (pa_cons pe_int (pa_cons pe_int pa_nil))))) (pg_name (i := 8) sc_law.nd rfl (Or.inl rfl)) (pss_one (ps_if (PW.pt (pw_or (pt_not (pt_val (PB.pe_callF O_l_refused (hr.mono (by decide)) pas0 (pa_cons (pv 6) (pa_cons pe_int (pa_cons (pv 8) pa_nil)))))) (pw_or1 (pt_not (pt_val (PB.pe_callF O_l_refused (hr.mono (by decide)) pas0 (pa_cons (pv 6) (pa_cons (PB.pe_makeF O_Ratio (hr.mono (by decide)) (pasT takes0) (pa_cons pe_int (pa_cons (pv 3) pa_nil))) (pa_cons (pv 8) pa_nil))))))))) (pss_one (ps_ret pe_bl)) pss_nil)))
      (pss_cons (ps_set (i := 9) sc_law.nd rfl (Or.inl rfl) (pe_op PB.op_fdivG (pe_op op_mulW (pv 2) (pv 5)) (pe_op op_mulW (pv 3) (pv 4))))
      (pss_cons (ps_set (i := 10) sc_law.nd rfl (Or.inl rfl) (pe_opS (op_own O_Ratio_DfloordivD T.own_Ratio T.rv_rfloordiv (hr.mono (by decide)) (pasT takes0) PySem.F.fills_int_floordiv tk_fdiv) (pv 6) (pv 7)))
      (pss_cons (ps_if (PW.pt (pw_or (pt_not (pt_val (PB.pe_callF O_l_m_whole (hr.mono (by decide)) pas0 (pa_cons (pv 10) pa_nil)))) (pw_or1 (pt_cmpR op_ne (pv 10) (pv 9) (nomark _))))) (pss_one (ps_ret pe_bl)) pss_nil)
      (pss_cons (ps_if (pt_not (pt_val (PB.pe_callF O_l_m_ratio (hr.mono (by decide)) pas0 (pa_cons (pe_opS (op_own O_Ratio_DmodD T.own_Ratio T.rv_rmod (hr.mono (by decide)) (pasT takes0) PySem.F.fills_int_mod tk_mod) (pv 6) (pv 7)) (pa_cons (pe_op op_sub (pe_op op_mulW (pv 2) (pv 5)) (pe_op op_mulW (pe_op op_mulW (pv 9) (pv 4)) (pv 3))) (pa_cons (pe_op op_mulW (pv 3) (pv 5)) pa_nil)))))) (pss_one (ps_ret pe_bl)) pss_nil)
      (pss_cons (ps_if (pt_not (pt_val (PB.pe_callF O_l_m_ratio (hr.mono (by decide)) pas0 (pa_cons (PB.pe_methF O_Ratio_over (hr.mono (by decide)) (pasT takes0) (pv 6) (pa_cons (pv 7) pa_nil)) (pa_cons (pe_op op_mulW (pv 2) (pv 5)) (pa_cons (pe_op op_mulW (pv 3) (pv 4)) pa_nil)))))) (pss_one (ps_ret pe_bl)) pss_nil)
      (pss_one (ps_ret (PB.pe_callF O_l_m_ratio (hr.mono (by decide)) pas0 (pa_cons (pv 6) (pa_cons (pv 2) (pa_cons (pv 3) pa_nil)))))))))))))))))))), ?_⟩
    try dsimp only [cxOf, Cx.nox, Cx.wish]
    rw [show ∀ z0 : V, L2.start ["_law_script", "_law_stream", "_law_high", "_law_low", "_law_other", "_law_under", "_law_one", "_law_by", "_law_way", "_law_due", "_law_found"] [z0] = [some z0, none, none, none, none, none, none, none, none, none, none] from fun _ => rfl]
    walk_at "pb"
    refine ⟨a, ns, rfl, hs, hl, fun S l H1 _ _ k1 hS => ?_⟩
    walk_at "pb"
    refine ⟨S, l, 0, rfl, by omega, hS, fun H2 hi k2 hS bhi => ?_⟩
    walk_at "pb"
    refine ⟨S, l, 2, rfl, by omega, hS, fun H3 lo k3 hS blo => ?_⟩
    walk_at "pb"
    refine ⟨S, l, 4, rfl, by omega, hS, fun H4 ot k4 hS bot => ?_⟩
    walk_at "pb"
    refine ⟨S, l, 6, rfl, by omega, hS, fun H5 un k5 hS bun => ?_⟩
    walk_at "pb"
    clear k1 k2 k3 k4 k5
    refine i_cut (fun σ' H' => H' = H5 ∧ ∃ lo ot : Int, σ' = [some (.ref a), some (.ref S), some (.int hi), some (.int lo), some (.int ot), some (.int un), none, none, none, none, none] ∧ lo ≠ 0 ∧ lo.natAbs < 2 ^ 150 ∧ ot ≠ 0 ∧ ot.natAbs < 2 ^ 150) ?_ ?_
    · walk_at "pb"
      refine b_neI (fun h1 => ?_) (fun h1 => ?_)
      · walk_at "pb"
        refine b_neI (fun h2 => ?_) (fun h2 => ?_)
        · walk_at "pb"
          exact ⟨rfl, _, _, rfl, h1, blo, h2, bot⟩
        · walk_at "pb"
          exact ⟨rfl, _, _, rfl, h1, blo, by decide, by decide +kernel⟩
      · walk_at "pb"
        refine b_neI (fun h2 => ?_) (fun h2 => ?_)
        · walk_at "pb"
          exact ⟨rfl, _, _, rfl, by decide, by decide +kernel, h2, bot⟩
        · walk_at "pb"
          exact ⟨rfl, _, _, rfl, by decide, by decide +kernel, by decide, by decide +kernel⟩
    clear blo bot lo ot
    rintro σ' H' ⟨rfl, lo, ot, rfl, hlo, blo, hot, bot⟩
    refine i_cut (fun σ' H'' => H'' = H' ∧ ∃ un : Int, σ' = [some (.ref a), some (.ref S), some (.int hi), some (.int lo), some (.int ot), some (.int un), none, none, none, none, none] ∧ un ≠ 0 ∧ un.natAbs < 2 ^ 150) ?_ ?_
    · walk_at "pb"
      refine b_neI (fun h1 => ?_) (fun h1 => ?_)
      · walk_at "pb"
        exact ⟨rfl, _, rfl, h1, bun⟩
      · walk_at "pb"
        exact ⟨rfl, _, rfl, by decide, by decide +kernel⟩
    clear bun un
    rintro σ' H' ⟨rfl, un, rfl, hun, bun⟩
    refine i_cut (fun σ' H'' => Stm S l 9 H'' ∧ ∃ hi : Int, σ' = [some (.ref a), some (.ref S), some (.int hi), some (.int lo), some (.int ot), some (.int un), none, none, none, none, none] ∧ hi.natAbs < 2 ^ 300) ?_ ?_
    · walk_at "pb"
      refine ⟨S, l, 8, 4, rfl, by decide, by decide +kernel, by omega, hS, fun H6 r k6 hS h0 h4 => ?_⟩
      walk_at "pb"
      refine b_eqI (fun h1 => ?_) (fun h1 => ?_)
      · walk_at "pb"
        refine i_rI (mulP bhi bot) ?_
        walk_at "pb"
        exact ⟨hS, _, rfl, sz_mul bhi bot (by decide)⟩
      · walk_at "pb"
        exact ⟨hS, _, rfl, sz_mono bhi (by decide)⟩
    clear hS bhi hi
    rintro σ' H6 ⟨hS, hi, rfl, bhi⟩
    walk_at "pb"
    refine use_makeR hlo (sz_mono bhi (by decide)) (b1 blo) fun x1 H7 k7 r1 => ?_
    walk_at "pb"
    refine use_makeR hun (b1 bot) (b1 bun) fun x2 H8 k8 r2 => ?_
    replace r1 := r1.keep k8
    replace hS := (hS.keep k7 (by simp) (by simp)).keep k8 (by simp) (by simp)
    walk_at "pb"
    refine i_cut (fun σ' H' => Keep [S, l] H8 H' ∧ ∃ (un : Int) (v2 : V), σ' = [some (.ref a), some (.ref S), some (.int hi), some (.int lo), some (.int ot), some (.int un), some (.ref x1), some v2, none, none, none] ∧ un ≠ 0 ∧ un.natAbs < 2 ^ 150 ∧ RV K H' (.ref x1) hi lo ∧ RI K H' v2 ot un) ?_ ?_
    · walk_at "pb"
      refine ⟨S, l, 9, 3, rfl, by decide, by decide +kernel, by omega, hS, fun H9 r k9 hS' h0 h4 => ?_⟩
      have r1' := r1.keepS hS k9
      have r2' := r2.keepS hS k9
      walk_at "pb"
      refine b_eqI (fun h1 => ?_) (fun h1 => ?_)
      · walk_at "pb"
        exact ⟨k9, 1, _, rfl, by decide, by decide +kernel, r1', .inr ⟨rfl, rfl⟩⟩
      · walk_at "pb"
        exact ⟨k9, un, _, rfl, hun, bun, r1', .inl r2'⟩
    clear r1 r2 hS k7 k8 hun bun un
    rintro σ' H9 ⟨_, un, v2, rfl, hun, bun, r1, r2⟩
    walk_at "pb"
    refine i_tupR (by walk_at "sz") fun p H10 _ k10 hp => ?_
    replace r1 := r1.keep k10
    replace r2 := r2.keep k10
    refine i_itT (SqT.of hp) ?_
    refine r_forT (SqT.of hp) (fun i σ' H' => Keep [] H10 H' ∧ ∃ z, σ' = [some (.ref a), some (.ref S), some (.int hi), some (.int lo), some (.int ot), some (.int un), some (.ref x1), some v2, z, none, none]) ⟨Keep.refl _, _, rfl⟩ (fun i σ' H' _ h => SqT.of (h.1.imm _ _ trivial hp)) ?_ ?_
    · rintro i x σ' H' hx ⟨k, z, rfl⟩
      obtain ⟨w, rfl⟩ : ∃ w : Int, x = .int w := by
        have := List.mem_of_getElem? hx
        simp only [List.mem_cons, List.not_mem_nil, or_false] at this
        rcases this with rfl | rfl | rfl <;> exact ⟨_, rfl⟩
      have r1' := r1.keep k
      walk_at "pb"
      refine ⟨_, _, hi, lo, 1, w, rfl, r1', .inr ⟨rfl, rfl⟩, hlo, by decide, bhi, sz_mono blo (by decide), by decide +kernel, fun H11 k11 => ?_⟩
      replace k11 := k.trans k11
      walk_at "pb"
      refine use_makeR hlo (by decide +kernel) (b1 blo) fun x3 H12 k12 r3 => ?_
      replace k12 := k11.trans k12
      walk_at "pb"
      refine ⟨_, _, hi, lo, lo, w, rfl, r1.keep k12, .inl r3, hlo, hlo, bhi, sz_mono blo (by decide), sz_mono blo (by decide), fun H13 k13 => ?_⟩
      walk_at "pb"
      exact ⟨k12.trans k13, _, rfl⟩
    · rintro σ' H11 ⟨k, z, rfl⟩
      replace r1 := r1.keep k
      replace r2 := r2.keep k
      walk_at "pb"
      refine i_rI (wide_mul bhi bun (by decide) (by decide) (by decide)) ?_
      walk_at "pb"
      refine i_rI (mulP blo bot) ?_
      refine i_rI ⟨Int.mul_ne_zero hlo hot, sz_mul blo bot (by decide)⟩ ?_
      walk_at "pb"
      generalize hq : (hi * un).fdiv (lo * ot) = due
      have sq : due.natAbs < 2 ^ 450 := by
        rw [← hq]
        exact Nat.lt_of_le_of_lt (sz_fdiv _ _) (sz_mul bhi bun (by decide))
      refine r1.own r2 ⟨_, _, hi, lo, ot, un, rfl, r1, r2, hlo, hun, sz_mono bhi (by decide), b1 blo, b1 bot, b1 bun, fun z => absurd z hot, fun _ H12 k12 => ?_⟩
      rw [hq]
      walk_at "pb"
      refine ⟨_, rfl, ?_⟩
      walk_at "pb"
      refine b_neI (fun z => absurd rfl z) (fun _ => ?_)
      replace r1 := r1.keep k12
      replace r2 := r2.keep k12
      walk_at "pb"
      refine r1.own r2 ⟨_, _, hi, lo, ot, un, rfl, r1, r2, hlo, hun, bhi, sz_mono blo (by decide), sz_mono bot (by decide), sz_mono bun (by decide), fun z => absurd z hot, fun _ x3 H13 k13 r3 => ?_⟩
      rw [hq] at r3
      replace r1 := r1.keep k13
      replace r2 := r2.keep k13
      have z1 : (hi * un - due * ot * lo).natAbs < 2 ^ 800 := sz_sub (sz_mul bhi bun (Nat.le_refl _)) (sz_mul (sz_mul sq bot (Nat.le_refl _)) blo (Nat.le_refl _)) (by decide) (by decide)
      have z2 : (lo * un).natAbs < 2 ^ 300 := sz_mul blo bun (by decide)
      have z3 : (hi * un).natAbs < 2 ^ 450 := sz_mul bhi bun (by decide)
      have z4 : (lo * ot).natAbs < 2 ^ 300 := sz_mul blo bot (by decide)
      walk_at "pb"
      refine i_rI (wide_mul bhi bun (by decide) (by decide) (by decide)) ?_
      walk_at "pb"
      refine i_rI (wide_mul sq bot (by decide) (by decide) (by decide)) ?_
      walk_at "pb"
      refine i_rI (wide_mul (sz_mul sq bot (Nat.le_refl _)) blo (by decide) (by decide) (by decide)) ?_
      walk_at "pb"
      refine i_rI (mulP blo bun) ?_
      walk_at "pb"
      refine r3.isMR (Int.mul_ne_zero hlo hun) (sz_mono z1 (by decide)) (sz_mono z2 (by decide)) ?_
      walk_at "pb"
      refine r1.meth ?_
      walk_at "pb"
      refine ⟨_, _, hi, lo, ot, un, rfl, r1, r2, hlo, hun, sz_mono bhi (by decide), b1 blo, b1 bot, b1 bun, fun z => absurd z hot, fun _ x4 H14 k14 r4 => ?_⟩
      walk_at "pb"
      refine i_rI (wide_mul bhi bun (by decide) (by decide) (by decide)) ?_
      walk_at "pb"
      refine i_rI (mulP blo bot) ?_
      walk_at "pb"
      refine r4.isMR (Int.mul_ne_zero hlo hot) (sz_mono z3 (by decide)) (sz_mono z4 (by decide)) ?_
      walk_at "pb"
      refine (r1.keep k14).isMR hlo (sz_mono bhi (by decide)) (sz_mono blo (by decide)) ?_
      exact q _
end Lw
namespace Lw
open PySem PySem.Spec PyProof.Rows L2 PB
abbrev R : PySem.W.OpenRow := PySem.W.OpenLaw.row PySem.Challenge.rw_pairahead_k02_ratio_quotients
abbrev hk : PySem.W.Hook := PB.hookP 5 fa fn bs
def ob (s : PySem.W.SharedT) : Bool × He.AlD := PB.obsP 5 fa fn bs (HandSHeadRun.getT s)
theorem ob_eq (s : PySem.W.SharedT) : ob s = hk.obs s.abs := PB.obsP_eq (HandSHeadRun.getT_eq s)
def loose : List PySem.Str := (["divisor", "fraction", "Ratio", "_law_draw", "_law_start", "_law_m_whole", "_law_m_number", "_law_m_divisor", "_law_m_ratio", "_law_refused"] : List PySem.Str)
theorem run (w : World) : HandSHeadRun.RunEq R (PySem.W.view R.prog [12]) hk ob 3000 loose w := by
  intro os
  kernel_rfl
end Lw
open PySem PySem.W PySem.Calls PyProof.Rows
set_option maxHeartbeats 0 in
theorem PySem.Challenge.cw_pairahead_k02_ratio_quotients_holds : PySem.Challenge.rw_pairahead_k02_ratio_quotients.Holds := by
  w_on; o_law
  refine HandSHeadRun.head_any (r := OpenLaw.row PySem.Challenge.rw_pairahead_k02_ratio_quotients) (q := view (OpenLaw.row PySem.Challenge.rw_pairahead_k02_ratio_quotients).prog [12]) (H := Lw.hk) (ob := Lw.ob) (M := 3000) (loose := Lw.loose) (d := HandSHeadRun.topDef (OpenLaw.row PySem.Challenge.rw_pairahead_k02_ratio_quotients).prog 12) (kwd := []) Lw.ob_eq
    (by kernel_rfl) (fun s => by kernel_rfl) Lw.run (by kernel_rfl) (by kernel_rfl) (by kernel_rfl) (by rfl) (by first | assumption | decide +kernel) (by decide +kernel) ⟨rfl, rfl, rfl, rfl, rfl, by decide +kernel⟩ ?hw ?hc
  case hw => w_witness2
  case hc =>
    refine L2.walk_ofE (l := PySem.Challenge.rw_pairahead_k02_ratio_quotients) (n := 63) (k := 8) (x := "_law_script") (CX := L2.CX0) rfl (by decide) (by kernel_rfl) ⟨rfl, by decide, by decide⟩ ?F (fun _ _ _ _ z => z)
    intro w mg fa h Y G hmg0
    obtain ⟨K, KX, c⟩ := Y
    have hmg : mg ("law" : PySem.Str) = some (.ref fa) := by
      have e : (HandSHeadRun.topDef (OpenLaw.row PySem.Challenge.rw_pairahead_k02_ratio_quotients).prog 12).name = ("law" : PySem.Str) := by kernel_rfl
      rw [← e]
      exact hmg0
    have T := Lw.tx_of KX G c
    have e := hmg.symm.trans T.g_law
    cases e
    obtain ⟨fd, F⟩ := T.d_law
    have b := L2.FunD.bindsA (ps := ["_law_script"]) F fun _ _ _ _ _ _ us hl => match us, hl with | [_], _ => rfl
    exact ⟨K, fd, Lw.spLaw K, KX, fun s v => b s [v] rfl, fun H a ns hl _ hS => ⟨a, ns, rfl, hS, hl, fun _ => rfl⟩, fun base _ _ => Lw.ok_law T F⟩
