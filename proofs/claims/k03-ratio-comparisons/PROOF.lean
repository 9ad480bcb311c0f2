import PyProof.Rows.All
import Wide.All
import OpenK.AllK
import Wide.FinOn
import KE.KStateDown
import Lean
import HandS.ForMost
import HandS.ForExc
import HandS.More
import HandS.Wide
import HandS.WideMore
import HandS.Flow
import HandS.Style
import HandS.IsInst
import HandS.TryMany
import HandS.TryElse
import HandS.ExcBuiltin
import HandS.ExcSuper
import HandS.ExcField
import HandS.ExcIs
import HandS.RaiseMore
import HandS.SuiteRaise
import HandS.EndBits
import HandS.Property
import HandS.MakeKw
import HandS.MakeKwOnly
import HandS.FStr
import HandS.Zip
import HandS.Conv
import HandS.Deep
import HandS.OwnEq
import HandS.Strs
import HandS.Small
import HandS.TupAny
import HandS.TupLe
import HandS.ClsMeth
import HandS.CallRecv
import HandS.Codes
import HandS.Evl
import HandS.Steps
import HandS.Defaults
import HandS.Head0
import HandS.Head1
import HandS.Head2
import HandS.HeadEnd
import HandS.HeadHook1
import HandS.HeadHook2
import PySem.Challenge.RW_pairahead_k03_ratio_comparisons
set_option Elab.async false
set_option linter.all false
set_option maxRecDepth 100000
set_option maxHeartbeats 4000000
namespace PB
open PySem PySem.Spec PyProof.Rows L2

/-! ## defs by names -/
def OkF (P : Program) (w : World) (K : PySem.W.Frag) (mg : Str → Option Value) (base : Heap) (CX : CXT) (k : Nat) (x : Str) (ps : List Str) (dvs : List V) (sp : Sp) : Prop :=
  ∃ (fd : FuncData) (ds : List Value), FnOk P w K mg base CX k (He.ga K x) fd ps sp ∧ mg x = some (.ref (He.ga K x)) ∧ PySem.W.keepIn K (.ref (He.ga K x)) = true ∧ Binds K fd ps ds ∧ Vals dvs ds
def OkM (P : Program) (w : World) (K : PySem.W.Frag) (mg : Str → Option Value) (base : Heap) (CX : CXT) (k : Nat) (c m : Str) (ps : List Str) (dvs : List V) (sp : Sp) : Prop :=
  ∃ (fd : FuncData) (ds : List Value), FnOk P w K mg base CX k (He.ma K (He.ga K c) m) fd ps sp ∧ Cls K (He.ga K c) ∧ Meth K (He.ga K c) m (He.ma K (He.ga K c) m) ∧ Binds K fd ps ds ∧ Vals dvs ds
/-- C(..): the class's maker and its __init__ -/
def OkC (P : Program) (w : World) (K : PySem.W.Frag) (mg : Str → Option Value) (base : Heap) (CX : CXT) (k : Nat) (c : Str) (ps : List Str) (dvs : List V) (sp : Sp) : Prop :=
  ∃ (fd : FuncData) (ds : List Value), FnOk P w K mg base CX k (He.ma K (He.ga K c) "__init__") fd ps sp ∧ mg c = some (.ref (He.ga K c)) ∧ Mk K (He.ga K c) (He.ma K (He.ga K c) "__init__") ∧ Binds K fd ps ds ∧ Vals dvs ds
/-! calls; W: what is wished of an exception, by the caller's slots -/
abbrev W0 : WX := fun _ _ _ _ => False
def tCallG (sp : Sp) (dvs : List V) (W : WX) (t : TA) : TE := fun σ H Q => t σ H fun vs H1 => sp (vs ++ dvs) H1 Q (WE W σ)
def tMethG (C : Addr) (m : Str) (sp : Sp) (dvs : List V) (W : WX) (ta : TE) (t : TA) : TE := fun σ H Q => ta σ H fun x H1 => ∃ a dx fs, x = .ref a ∧ H1 a = some (.ins C dx fs) ∧ fs.lookup m = none ∧
  t σ H1 fun vs H2 => sp (x :: (vs ++ dvs)) H2 Q (WE W σ)
def tMakeG (C : Addr) (sp : Sp) (dvs : List V) (W : WX) (t : TA) : TE := fun σ H Q => t σ H fun vs H1 => ∀ x dx, H1 x = none → H1 dx = none → dx ≠ x →
  sp (.ref x :: (vs ++ dvs)) (upd (upd H1 dx (.own x)) x (.ins C dx [])) (fun v H2 => v = .non ∧ Q (.ref x) H2) (WE W σ)
section
variable {X : Cx} {CX : CXT} {k : Nat} {f C : Addr} {fd : FuncData} {x c m : Str} {ps : List Str} {dvs : List V} {ds : List Value} {sp : Sp} {W : WX} {E : XK} {p pos apos : Pos} {e o : Expr} {es : List Expr} {t : TA} {ta : TE}
theorem pas0 : ∀ σ, PassesAt CX0 X σ (WE W0 σ) := fun _ _ _ _ _ _ _ h => h.elim
theorem pasT (tk : Takes X W) : ∀ σ, PassesAt (L2.CX X.prog X.w) X σ (WE W σ) := fun σ => passAt tk σ
theorem OkF.mono {P w K mg base j} (O : OkF P w K mg base CX j x ps dvs sp) (h : j ≤ k) : OkF P w K mg base CX k x ps dvs sp :=
  let ⟨fd, ds, F, a, b, c, d⟩ := O; ⟨fd, ds, F.mono h, a, b, c, d⟩
theorem OkM.mono {P w K mg base j} (O : OkM P w K mg base CX j c m ps dvs sp) (h : j ≤ k) : OkM P w K mg base CX k c m ps dvs sp :=
  let ⟨fd, ds, F, a, b, c, d⟩ := O; ⟨fd, ds, F.mono h, a, b, c, d⟩
/-- the callee runs, somewhere below this body -/
theorem run_fnA {A' : Around} (hA : A'.frames = X.A.frames) {pins : List (Addr × Obj)} {σ : L2.St} {H : Hp} {s : Shared} {Q : VK} {us : List Value} {vs : List V} (F : FnOk X.prog X.w X.K X.mg X.base CX k f fd ps sp) (hr : Room k A') (hb : Binds X.K fd ps ds) (hd : Vals dvs ds) (hx : PassesAt CX X σ E)
    (I : Inv X pins σ H s) (r : Vals vs us) (h : sp (vs ++ dvs) H Q E) : wpAny (model X.prog X.w) A' (call (.ref f) us) (EP X pins σ Q) X.xe s := by
  have r2 : Vals (vs ++ dvs) (us ++ ds) := r.append hd
  have hl : (us ++ ds).length = ps.length := r2.length.symm.trans (F.len _ _ _ _ h)
  have e0 := I.env0
  have e1 : Env0 X.prog X.w X.K X.mg X.base A' X.stack s H := ⟨hA.trans e0.frames, e0.mod, e0.bs, e0.bsz, e0.funs, e0.frf, e0.hok, e0.bare⟩
  have run := F.run A' X.stack s H ⟨us, []⟩ (us ++ ds) (vs ++ dvs) Q E hr e1 (hb s us I.kIn hl) r2 h
  refine wpAny_call (codeAny_mono run fun r s' hq => ?_)
  match r, hq with
  | .error e, hq => exact hx pins H s e s' I hq
  | .ok (.ret u), hq => exact I.after hq
theorem run_makeA {pins : List (Addr × Obj)} {σ : L2.St} {H : Hp} {s : Shared} {Q : VK} {us : List Value} {vs : List V} (M : Mk X.K C f) (F : FnOk X.prog X.w X.K X.mg X.base CX k f fd ps sp) (hr : Room (k + 1) X.A) (hb : Binds X.K fd ps ds) (hd : Vals dvs ds)
    (hx : PassesAt CX X σ E) (I : Inv X pins σ H s) (r : Vals vs us)
    (h : ∀ x dx, H x = none → H dx = none → dx ≠ x → sp (.ref x :: (vs ++ dvs)) (upd (upd H dx (.own x)) x (.ins C dx [])) (fun v H2 => v = .non ∧ Q (.ref x) H2) E) :
    wpAny (model X.prog X.w) X.A (call (.ref C) us) (EP X pins σ Q) X.xe s := by
  have fresh : ∀ b, s.heap.objs.size ≤ b → H b = none := fun b hb => I.hok.fresh hb
  have hq := h (s.heap.objs.size + 1) s.heap.objs.size (fresh _ (Nat.le_succ _)) (fresh _ (Nat.le_refl _)) (Nat.ne_of_lt (Nat.lt_succ_self _))
  have I2 := Inv.made (C := C) I
  have r2 : Vals (V.ref (s.heap.objs.size + 1) :: (vs ++ dvs)) (Value.ref (s.heap.objs.size + 1) :: (us ++ ds)) := .cons rfl (r.append hd)
  have hl : (Value.ref (s.heap.objs.size + 1) :: us ++ ds).length = ps.length := r2.length.symm.trans (F.len _ _ _ _ hq)
  have run := F.run _ X.stack _ _ ⟨Value.ref (s.heap.objs.size + 1) :: us, []⟩ (Value.ref (s.heap.objs.size + 1) :: (us ++ ds)) _ _ E (hr.make C us []) (I2.env0.make C us []) (hb _ (Value.ref (s.heap.objs.size + 1) :: us) I2.kIn hl) r2 hq
  refine wpAny_call (make_map (f := f) I.kIn M.makes M.init (beq_iff_eq.mp M.fn) (codeAny_mono run fun r s' hq' => ?_))
  match r, hq' with
  | .error e, hq' => exact hx pins _ _ e s' I2 hq'
  | .ok (.ret u), hq' =>
    obtain ⟨v, H', I3, rv, ev, q3⟩ := I2.after hq'
    subst ev
    exact ⟨rv, ⟨V.ref (s.heap.objs.size + 1), H', I3, rfl, q3⟩⟩
theorem pe_callF (O : OkF X.prog X.w X.K X.mg X.base CX k x ps dvs sp) (hr : Room k X.A) (hx : ∀ σ, PassesAt CX X σ (WE W σ)) (ha : PA X (e :: es) t) (hg : Gl X x := by rfl)
    (hdb : (x == ("__debug__" : Str)) = false := by decide) (he : starEach (e :: es) X.env = (false, eval e X.env) :: starEach es X.env := by rfl) (hpl : (backTo pos (starEach es X.env)).any (·.1) = false := by rfl) :
    PE X (.Call (.Name x p) (e :: es) [] pos) (tCallG sp dvs W t) := by
  obtain ⟨fd, ds, F, hm, hk, hb, hd⟩ := O
  refine ⟨fun pins s σ H Q I h => wpAny_Call_Name_kw (ld_glob I hg hm ?_ hdb)⟩
  have ev := thn (ha.run pos pins s σ H _ I h) fun us s1 ⟨vs, H1, I1, r, q⟩ => (⟨I1.kIn, run_fnA rfl F hr hb hd (hx σ) I1 r q⟩ : _ ∧ _)
  exact PySem.W.callWith_K (h₀ := X.base) I.ok.mod.kin hk ev he hpl
theorem pe_callF0 (O : OkF X.prog X.w X.K X.mg X.base CX k x ps dvs sp) (hr : Room k X.A) (hx : ∀ σ, PassesAt CX X σ (WE W σ)) (hg : Gl X x := by rfl)
    (hdb : (x == ("__debug__" : Str)) = false := by decide) : PE X (.Call (.Name x p) [] [] pos) (tCallG sp dvs W tNil) := by
  obtain ⟨fd, ds, F, hm, hk, hb, hd⟩ := O
  refine ⟨fun pins s σ H Q I h => wpAny_Call_Name_kw (ld_glob I hg hm ?_ hdb)⟩
  exact PySem.W.callWith_K0 I.kIn hk (run_fnA rfl (us := []) F hr hb hd (hx σ) I .nil h)
theorem pe_methF {pl : Sem Bool} (O : OkM X.prog X.w X.K X.mg X.base CX k c m ps dvs sp) (hr : Room k X.A) (hx : ∀ σ, PassesAt CX X σ (WE W σ)) (he : PE X o ta) (ha : PA X (e :: es) t)
    (hst : starEach (e :: es) X.env = (false, eval e X.env) :: starEach es X.env := by rfl) (hpl : (backTo pos (starEach es X.env)).any (·.1) = false := by rfl)
    (ht : eval (.Call (.Attribute o m apos) (e :: es) [] pos) X.env = (do
      let ov ← eval o X.env
      standAt apos.atName
      let (f, first) ← holding [ov] (getMethod ov m pl)
      callWith pos f first (backTo pos (starEach (e :: es) X.env)) (backToKw pos (keywordEach [] X.env))) := by rfl) :
    PE X (.Call (.Attribute o m apos) (e :: es) [] pos) (tMethG (He.ga X.K c) m sp dvs W ta t) := by
  obtain ⟨fd, ds, F, hc, hm, hb, hd⟩ := O
  refine ⟨fun pins s σ H Q I h => PySem.W.methodCall_KW (pl := pl) (thn (he.run pins s σ H _ I h) fun u s1 hu => ?_) ht⟩
  obtain ⟨x, H1, I1, rx, a, dx, fs, ex, ea, l, q⟩ := hu
  subst ex
  cases rx
  refine getmeth_ok I1 ea hc hm l ?_
  have ev := thn (ha.run pos pins s1 σ H1 _ I1 q) fun us s2 ⟨vs, H2, I2, r, q2⟩ => (⟨I2.kIn, run_fnA rfl (us := .ref a :: us) (vs := .ref a :: vs) F hr hb hd (hx σ) I2 (.cons rfl r) q2⟩ : _ ∧ _)
  exact PySem.W.callWith_K (first := [.ref a]) (h₀ := X.base) I.ok.mod.kin hm.kp ev hst hpl
theorem pe_methF0 {pl : Sem Bool} (O : OkM X.prog X.w X.K X.mg X.base CX k c m ps dvs sp) (hr : Room k X.A) (hx : ∀ σ, PassesAt CX X σ (WE W σ)) (he : PE X o ta)
    (ht : eval (.Call (.Attribute o m apos) [] [] pos) X.env = (do
      let ov ← eval o X.env
      standAt apos.atName
      let (f, first) ← holding [ov] (getMethod ov m pl)
      callWith pos f first (backTo pos (starEach [] X.env)) (backToKw pos (keywordEach [] X.env))) := by rfl) :
    PE X (.Call (.Attribute o m apos) [] [] pos) (tMethG (He.ga X.K c) m sp dvs W ta tNil) := by
  obtain ⟨fd, ds, F, hc, hm, hb, hd⟩ := O
  refine ⟨fun pins s σ H Q I h => PySem.W.methodCall_KW (pl := pl) (thn (he.run pins s σ H _ I h) fun u s1 hu => ?_) ht⟩
  obtain ⟨x, H1, I1, rx, a, dx, fs, ex, ea, l, q⟩ := hu
  subst ex
  cases rx
  refine getmeth_ok I1 ea hc hm l ?_
  exact PySem.W.callWith_K0 (first := [.ref a]) I1.kIn hm.kp (run_fnA rfl (us := [.ref a]) (vs := [.ref a]) F hr hb hd (hx σ) I1 (.cons rfl .nil) q)
theorem pe_makeF (O : OkC X.prog X.w X.K X.mg X.base CX k c ps dvs sp) (hr : Room (k + 1) X.A) (hx : ∀ σ, PassesAt CX X σ (WE W σ)) (ha : PA X (e :: es) t) (hg : Gl X c := by rfl)
    (hdb : (c == ("__debug__" : Str)) = false := by decide) (he : starEach (e :: es) X.env = (false, eval e X.env) :: starEach es X.env := by rfl) (hpl : (backTo pos (starEach es X.env)).any (·.1) = false := by rfl) :
    PE X (.Call (.Name c p) (e :: es) [] pos) (tMakeG (He.ga X.K c) sp dvs W t) := by
  obtain ⟨fd, ds, F, hm, hk, hb, hd⟩ := O
  refine ⟨fun pins s σ H Q I h => wpAny_Call_Name_kw (ld_glob I hg hm ?_ hdb)⟩
  have ev := thn (ha.run pos pins s σ H _ I h) fun us s1 ⟨vs, H1, I1, r, q⟩ => (⟨I1.kIn, run_makeA hk F hr hb hd (hx σ) I1 r q⟩ : _ ∧ _)
  exact PySem.W.callWith_K (h₀ := X.base) I.ok.mod.kin hk.kp ev he hpl
theorem pe_makeF0 (O : OkC X.prog X.w X.K X.mg X.base CX k c ps dvs sp) (hr : Room (k + 1) X.A) (hx : ∀ σ, PassesAt CX X σ (WE W σ)) (hg : Gl X c := by rfl)
    (hdb : (c == ("__debug__" : Str)) = false := by decide) : PE X (.Call (.Name c p) [] [] pos) (tMakeG (He.ga X.K c) sp dvs W tNil) := by
  obtain ⟨fd, ds, F, hm, hk, hb, hd⟩ := O
  refine ⟨fun pins s σ H Q I h => wpAny_Call_Name_kw (ld_glob I hg hm ?_ hdb)⟩
  exact PySem.W.callWith_K0 I.kIn hk.kp (run_makeA (us := []) hk F hr hb hd (hx σ) I .nil h)
/-! an operator that wants the slots -/
def OpRS (X : Cx) (f : Value → Value → Sem Value) (r : L2.St → R2) : Prop :=
  ∀ (pins : List (Addr × Obj)) (s : Shared) (σ : L2.St) (H : Hp) (x y : V) (v u : Value) (Q : VK), Inv X pins σ H s → RelV x v → RelV y u → r σ x y H Q → wpAny (model X.prog X.w) X.A (f v u) (EP X pins σ Q) X.xe s
def UnRS (X : Cx) (f : Value → Sem Value) (r : L2.St → V → Hp → VK → Prop) : Prop :=
  ∀ (pins : List (Addr × Obj)) (s : Shared) (σ : L2.St) (H : Hp) (x : V) (v : Value) (Q : VK), Inv X pins σ H s → RelV x v → r σ x H Q → wpAny (model X.prog X.w) X.A (f v) (EP X pins σ Q) X.xe s
def CallRS (X : Cx) (f : Value) (r : L2.St → List V → Hp → VK → Prop) : Prop :=
  ∀ (pins : List (Addr × Obj)) (s : Shared) (σ : L2.St) (H : Hp) (xs : List V) (us : List Value) (Q : VK), Inv X pins σ H s → Vals xs us → r σ xs H Q → wpAny (model X.prog X.w) X.A (call f us) (EP X pins σ Q) X.xe s
def tOpS (r : L2.St → R2) (ta tb : TE) : TE := fun σ H Q => ta σ H fun x H1 => tb σ H1 fun y H2 => r σ x y H2 Q
def tUnS (r : L2.St → V → Hp → VK → Prop) (ta : TE) : TE := fun σ H Q => ta σ H fun x H1 => r σ x H1 Q
def tCBS (r : L2.St → List V → Hp → VK → Prop) (t : TA) : TE := fun σ H Q => t σ H fun vs H1 => r σ vs H1 Q
variable {a b : Expr} {tb : TE}
theorem pe_opS {op : Operator} {r : L2.St → R2} (ho : OpRS X (binaryOp op) r) (ha : PE X a ta) (hb : PE X b tb) : PE X (.BinOp a op b pos) (tOpS r ta tb) :=
  ⟨fun pins s σ H Q I h => wpAny_BinOp (binT ha hb I h fun v u s2 x y H2 I2 rx ry q => ho pins s2 σ H2 x y v u Q I2 rx ry q)⟩
theorem pe_cmpS {op : CmpOp} {r : L2.St → R2} (ho : OpRS X (compareOp op) r) (ha : PE X a ta) (hb : PE X b tb) (hm : behindInMarks op b = false) : PE X (.Compare a [op] [b] pos) (tOpS r ta tb) :=
  ⟨fun pins s σ H Q I h => wpAny_Compare1 (binT ha hb I h fun v u s2 x y H2 I2 rx ry q => ho pins s2 σ H2 x y v u Q I2 rx ry q) hm⟩
theorem pe_unS {op : UnaryOp} {r : L2.St → V → Hp → VK → Prop} (ho : UnRS X (unaryOp op) r) (ha : PE X a ta) : PE X (.UnaryOp op a pos) (tUnS r ta) :=
  ⟨fun pins s σ H Q I h => UnaryOp_ (thn (ha.run pins s σ H _ I h) fun v s1 ⟨x, H1, I1, r1, q1⟩ => ho pins s1 σ H1 x v Q I1 r1 q1)⟩
theorem pe_callBS {id : String} {r : L2.St → List V → Hp → VK → Prop} (hc : CallRS X (.builtin id) r) (hg : Gl X x) (hm : X.mg x = none) (hv : bootBuiltins x = some (.builtin id)) (ha : PA X (e :: es) t) (hn : x ≠ "__name__" := by decide) (hdb : (x == ("__debug__" : Str)) = false := by decide)
    (he : starEach (e :: es) X.env = (false, eval e X.env) :: starEach es X.env := by rfl) (hpl : (backTo pos (starEach es X.env)).any (·.1) = false := by rfl) : PE X (.Call (.Name x p) (e :: es) [] pos) (tCBS r t) := by
  refine ⟨fun pins s σ H Q I h => wpAny_Call_Name_kw (ld_blt I hg hm hv ?_ hn hdb)⟩
  have ev := thn (ha.run pos pins s σ H _ I h) fun us s1 ⟨vs, H1, I1, r1, q1⟩ => hc pins s1 σ H1 vs us Q I1 r1 q1
  exact PyProof.Rows.callWith_builtin1 ev he hpl
theorem pe_callTyS {T : String} {r : L2.St → List V → Hp → VK → Prop} (hc : CallRS X (.type T) r) (hg : Gl X x) (hm : X.mg x = none) (hv : bootBuiltins x = some (.type T)) (ha : PA X (e :: es) t) (hn : x ≠ "__name__" := by decide) (hdb : (x == ("__debug__" : Str)) = false := by decide)
    (he : starEach (e :: es) X.env = (false, eval e X.env) :: starEach es X.env := by rfl) (hpl : (backTo pos (starEach es X.env)).any (·.1) = false := by rfl) : PE X (.Call (.Name x p) (e :: es) [] pos) (tCBS r t) := by
  refine ⟨fun pins s σ H Q I h => wpAny_Call_Name_kw (ld_blt I hg hm hv ?_ hn hdb)⟩
  have ev := thn (ha.run pos pins s σ H _ I h) fun us s1 ⟨vs, H1, I1, r1, q1⟩ => hc pins s1 σ H1 vs us Q I1 r1 q1
  exact PyProof.Rows.callWith_type1 ev he hpl
end

/-! ## the end: a law, its script's bits told -/
theorem walk_ofEB {l : PySem.W.OpenLaw} {n k : Nat} {q : Program} {loose : List Str} {XP : (Str → Option Value) → Heap → Prop} {YP : World → Heap → Prop} {d : DefRec} {CX : CXT} {x : Str}
    (hn : l.most = some n) (hn2 : n ≤ sizeLine) (hdf : d.params.defaults = []) (hr : Room k callerA)
    (F : ∀ (w : World) (mg : Str → Option Value) (fa : Addr) (h : Heap), YP w h → h.Ns mainGlobals mg → mg d.name = some (.ref fa) →
      ∃ (K : PySem.W.Frag) (fd : FuncData) (sp : Sp), K.In h ∧ (∀ (s : Shared) (u : Value), BindsTo s fd ⟨[u], []⟩ [(x, u)]) ∧
        (∀ (H : Hp) (a : Addr) (ns : List Int), ns.length ≤ n → (∀ z ∈ ns, Builtin.Int.intBits z ≤ 1048576) → Only H → SqL K H a (ns.map V.int) → sp [.ref a] H (fun v _ => v = .bl true) fun _ _ _ => False) ∧
        ∀ base : Heap, K.In base → base.Ns mainGlobals mg → FnOk l.prog w K mg base CX k fa fd [x] sp)
    (hCX : ∀ (H : Hp) (s : Shared) (e : Value) (s' : Shared), CX [] H s (fun _ _ _ => False) e s' → False) :
    PySem.W.WalkO q loose XP YP l.row.toRowW d [] (fun f vs => PySem.call f vs) := by
  refine Att.attach_callB hn hdf fun w s₀ s₁ mg mb fa o pm cd doc a vs ns G Y ho hd hcd hmg hobj hints hlen hbits hg => ?_
  obtain ⟨K, fd, sp, KX, hb, hsp, hF⟩ := F w mg fa _ Y G.T.g hmg
  exact law_call KX G.T.g G.T.b G.T.builtins G.T.nolimit hg hobj hints (Nat.le_trans hlen hn2) hr hF hb (fun H hO hS => hsp H a ns hlen hbits hO hS) fun H e s' => hCX H s₁ e s'

/-! ## union rules -/
theorem OpRor {X : Cx} {f : Value → Value → Sem Value} {r r' : R2} (h : OpR X f r) (h' : OpR X f r') : OpR X f (fun x y H Q => r x y H Q ∨ r' x y H Q) :=
  fun pins s σ H x y v u Q I rx ry q => q.elim (fun q => h pins s σ H x y v u Q I rx ry q) fun q => h' pins s σ H x y v u Q I rx ry q
theorem CallRor {X : Cx} {f : Value} {r r' : List V → Hp → VK → Prop} (h : CallR X f r) (h' : CallR X f r') : CallR X f (fun xs H Q => r xs H Q ∨ r' xs H Q) :=
  fun pins s σ H xs us Q I rx q => q.elim (fun q => h pins s σ H xs us Q I rx q) fun q => h' pins s σ H xs us Q I rx q
/-- // by any divisor below 2 ^ 9000 in size, but 0 -/
def CDivG (_ j : Int) : Prop := j ≠ 0 ∧ j.natAbs < 2 ^ 9000
theorem op_fdivG {X : Cx} : OpR X (binaryOp .FloorDiv) (rI CDivG fun i j => .int (i.fdiv j)) := opI fun _ _ _ _ _ _ _ hc q =>
  floordiv_int hc.1 q (.inl (PyProof.noPylong_of_log2 (PySem.Flt.log2_lt_of (by decide) hc.2)))

/-! ## heaps: what a def keeps -/
def Imm : HO → Prop
  | .tup _ => True
  | .frz _ _ => True
  | _ => False
/-- all but what stands at ms is kept; what never changes is kept everywhere -/
structure Keep (ms : List Addr) (H H' : Hp) : Prop where
  at_ : ∀ b o, b ∉ ms → H b = some o → H' b = some o
  imm : ∀ b o, Imm o → H b = some o → H' b = some o
theorem Keep.refl {ms : List Addr} (H : Hp) : Keep ms H H := ⟨fun _ _ _ h => h, fun _ _ _ h => h⟩
theorem Keep.trans {ms : List Addr} {H H1 H2 : Hp} (a : Keep ms H H1) (b : Keep ms H1 H2) : Keep ms H H2 := ⟨fun c o n h => b.at_ c o n (a.at_ c o n h), fun c o n h => b.imm c o n (a.imm c o n h)⟩
theorem Keep.mono {ms ns : List Addr} {H H1 : Hp} (a : Keep ms H H1) (h : ∀ m ∈ ms, m ∈ ns) : Keep ns H H1 := ⟨fun c o n q => a.at_ c o (fun z => n (h c z)) q, a.imm⟩
theorem Keep.new {ms : List Addr} {H : Hp} {p : Addr} {o : HO} (h : H p = none) : Keep ms H (upd H p o) :=
  ⟨fun b u _ e => by rw [upd_ne (ne_of_none e h)]; exact e, fun b u _ e => by rw [upd_ne (ne_of_none e h)]; exact e⟩
theorem Keep.set {ms : List Addr} {H : Hp} {p : Addr} {o : HO} (hm : p ∈ ms) (h : ∀ u, H p = some u → ¬ Imm u) : Keep ms H (upd H p o) :=
  ⟨fun b u n e => by rw [upd_ne (show b ≠ p from fun z => n (by rw [z]; exact hm))]; exact e, fun b u i e => by
    by_cases hb : b = p
    · subst hb; exact absurd i (h u e)
    · rw [upd_ne hb]; exact e⟩
theorem Keep.set' {ms : List Addr} {H : Hp} {p : Addr} {o u : HO} (hm : p ∈ ms) (h : H p = some u) (n : ¬ Imm u) : Keep ms H (upd H p o) :=
  Keep.set hm fun v e => by rw [h] at e; cases e; exact n
/-- a change of what the start did not know -/
theorem Keep.mut {ms : List Addr} {H H1 : Hp} {p : Addr} {o : HO} (a : Keep ms H H1) (h : H p = none) : Keep ms H (upd H1 p o) :=
  ⟨fun b u n e => by rw [upd_ne (ne_of_none e h)]; exact a.at_ b u n e, fun b u i e => by rw [upd_ne (ne_of_none e h)]; exact a.imm b u i e⟩
theorem Keep.free {ms : List Addr} {H H' : Hp} (e : Keep ms H H') {l : Addr} (hl : l ∉ ms) (h : H' l = none) : H l = none := by
  cases q : H l with
  | none => rfl
  | some o => rw [e.at_ l o hl q] at h; cases h
theorem Keep.same {ms : List Addr} {H H' : Hp} (e : Keep [] H H') : Keep ms H H' := e.mono (by simp)
theorem Keep.seqT {K : PySem.W.Frag} {ms : List Addr} {H H' : Hp} {a : Addr} {xs : List V} (e : Keep ms H H') (h : SqT K H a xs) : SqT K H' a xs := by
  rcases h with (h | ⟨o, h⟩) | h
  · exact .inl (.inl (e.imm _ _ trivial h))
  · exact .inl (.inr ⟨o, e.imm _ _ trivial h⟩)
  · exact .inr h
theorem Keep.seqL {K : PySem.W.Frag} {ms : List Addr} {H H' : Hp} {a : Addr} {xs : List V} (e : Keep ms H H') (ha : a ∉ ms) (h : SqL K H a xs) : SqL K H' a xs := by
  rcases h with (h | ⟨o, h⟩) | h
  · exact .inl (.inl (e.at_ _ _ ha h))
  · exact .inl (.inr ⟨o, e.imm _ _ trivial h⟩)
  · exact .inr h
theorem Keep.fresh1 {ms : List Addr} {H H1 H2 : Hp} {x : Addr} (a : Keep ms H H1) (hx : H x = none) (b : Keep [x] H1 H2) : Keep ms H H2 :=
  ⟨fun c o n e => b.at_ c o (by simpa using ne_of_none e hx) (a.at_ c o n e), fun c o i e => b.imm c o i (a.imm c o i e)⟩
end PB
namespace PB
open PySem PySem.Spec PyProof.Rows L2
section
variable {σ : L2.St} {H : Hp} {Q : VK} {QT : Bool → Hp → Prop} {QA : List V → Hp → Prop} {ta tb te tc : TE} {tt tu : TT} {tA : TA} {v x y : V} {i j : Nat} {D : Ends} {t1 t2 : TS} {K : PySem.W.Frag} {a b C dx : Addr} {fs : List (Str × V)} {f : Str} {sp : Sp} {dvs : List V} {E : XK} {W : WX} {g : TG} {gs : TGs} {wi : TI}
/-! the shapes of readings by names, so that steps unify at once -/
def NewT (xs : List V) (H : Hp) (Q : VK) : Prop := xs.length ≤ sizeLine ∧ ∀ p, H p = none → Q (.ref p) (upd H p (.tup xs))
def NewL (xs : List V) (H : Hp) (Q : VK) : Prop := xs.length ≤ sizeLine ∧ ∀ p, H p = none → Q (.ref p) (upd H p (.lst xs))
def GetF (K : PySem.W.Frag) (f : Str) (x : V) (H : Hp) (Q : VK) : Prop := ∃ a C dx fs v, x = .ref a ∧ H a = some (.ins C dx fs) ∧ Cls K C ∧ NoAttr K C f ∧ fs.lookup f = some v ∧ Q v H
def PutF (K : PySem.W.Frag) (f : Str) (x y : V) (H : Hp) (G : Hp → Prop) : Prop := ∃ a C dx fs, x = .ref a ∧ H a = some (.ins C dx fs) ∧ Cls K C ∧ NoAttr K C f ∧ fs.length < 1000 ∧ G (upd H a (.ins C dx (putF f y fs)))
def GetM (C : Addr) (m : Str) (x : V) (H : Hp) (G : Prop) : Prop := ∃ a dx fs, x = .ref a ∧ H a = some (.ins C dx fs) ∧ fs.lookup m = none ∧ G
def NewI (C : Addr) (sp : Sp) (vs : List V) (E : XK) (H : Hp) (Q : VK) : Prop := ∀ x dx, H x = none → H dx = none → dx ≠ x → sp (.ref x :: vs) (upd (upd H dx (.own x)) x (.ins C dx [])) (fun v H2 => v = .non ∧ Q (.ref x) H2) E
/-! ### readings, a step each -/
theorem i_seq (h : t1 { D with nx := t2 D } σ H) : tSeq t1 t2 D σ H := h
theorem i_cut (Mid : L2.St → Hp → Prop) (h : t1 { D with nx := Mid } σ H) (h2 : ∀ σ' H', Mid σ' H' → t2 D σ' H') : C8.tCut t1 t2 D σ H := ⟨Mid, h, h2⟩
theorem i_next (h : D.nx σ H) : tNext D σ H := h
theorem i_brk (h : D.bk σ H) : tBreak D σ H := h
theorem i_cont (h : D.ct σ H) : tCont D σ H := h
theorem i_asg (h : te σ H fun x H1 => g x σ H1 D.nx) : tAsg te g D σ H := h
theorem i_drop (h : te σ H fun _ H1 => D.nx σ H1) : tDrop te D σ H := h
theorem i_ret (h : te σ H D.rt) : tRet te D σ H := h
theorem i_retN (h : D.rt .non H) : tRetN D σ H := h
theorem i_ifS (h : tt σ H fun b H1 => if b = true then t1 D σ H1 else t2 D σ H1) : tIfS tt t1 t2 D σ H := h
theorem i_gname {G : L2.St → Hp → Prop} (h : G (σ.set i (some v)) H) : gName i v σ H G := h
theorem i_gtup {G : L2.St → Hp → Prop} {n : Nat} {xs : List V} (hs : SqT K H a xs) (hn : xs.length = n) (h : gs xs σ H G) : gTup K n gs (.ref a) σ H G := ⟨a, xs, rfl, hs, hn, h⟩
theorem i_gcons {G : L2.St → Hp → Prop} {r : List V} (h : g v σ H fun σ' H' => gs r σ' H' G) : gCons g gs (v :: r) σ H G := ⟨v, r, rfl, h⟩
theorem i_gnil {G : L2.St → Hp → Prop} (h : G σ H) : gNil [] σ H G := ⟨rfl, h⟩
theorem i_gsub {to ti : TE} {t : TSet} {G : L2.St → Hp → Prop} (h : to σ H fun o H1 => ti σ H1 fun i H2 => t o i v H2 fun H3 => G σ H3) : gSub to ti t v σ H G := h
theorem i_par {tA : TA} (h : tA σ H fun vs H1 => ∃ v w, vs = [v, w] ∧ D.nx ((σ.set i (some v)).set j (some w)) H1) : tPar i j tA D σ H := h
theorem i_par2 {v w : V} {G : V → V → Prop} (h : G v w) : ∃ v' w', [v, w] = [v', w'] ∧ G v' w' := ⟨v, w, rfl, h⟩
theorem i_aug {ti : TIp} (hx : σ[i]? = some (some x)) (h : te σ H fun y H1 => ti x y H1 fun z H2 => D.nx (σ.set i (some z)) H2) : tAug i te ti D σ H := ⟨x, hx, h⟩
theorem i_ipI {F : Int → Int → Int} {m n : Int} (h : Q (.int (F m n)) H) : ipI F (.int m) (.int n) H Q := ⟨m, n, rfl, rfl, h⟩
theorem i_var (hx : σ[i]? = some (some v)) (h : Q v H) : tVar i σ H Q := ⟨v, hx, h⟩
theorem i_c (h : Q v H) : tC v σ H Q := h
theorem i_op {r : R2} (h : ta σ H fun x H1 => tb σ H1 fun y H2 => r x y H2 Q) : tOp r ta tb σ H Q := h
theorem i_un {r : V → Hp → VK → Prop} (h : ta σ H fun x H1 => r x H1 Q) : tUn r ta σ H Q := h
theorem i_rU {G : Int → V} {m : Int} (h : Q (G m) H) : rU G (.int m) H Q := ⟨m, rfl, h⟩
theorem i_rI0 {G : Int → Int → V} {m n : Int} (h : Q (G m n) H) : rI0 G (.int m) (.int n) H Q := ⟨m, n, rfl, rfl, h⟩
theorem i_rI {Cn : Int → Int → Prop} {G : Int → Int → V} {m n : Int} (hc : Cn m n) (h : Q (G m n) H) : rI Cn G (.int m) (.int n) H Q := ⟨m, n, rfl, rfl, hc, h⟩
theorem i_rEq (hs : scal x y = true) (h : Q (.bl (decide (x = y))) H) : rEq x y H Q := ⟨hs, h⟩
theorem i_rNe (hs : scal x y = true) (h : Q (.bl (!decide (x = y))) H) : rNe x y H Q := ⟨hs, h⟩
theorem i_test (h : te σ H fun x H' => ∃ k, x = .bl k ∧ QT k H') : tTest te σ H QT := h
theorem i_B (h : te σ H fun x H' => ∃ k, x = .bl k ∧ QT k H') : tB te σ H QT := h
theorem i_bl {k : Bool} {G : Bool → Prop} (h : G k) : ∃ k', V.bl k = .bl k' ∧ G k' := ⟨k, rfl, h⟩
theorem i_not (h : tt σ H fun c H1 => QT (!c) H1) : tNot tt σ H QT := h
theorem i_and (h : tt σ H fun c H1 => if c = true then tu σ H1 QT else QT false H1) : tAnd tt tu σ H QT := h
theorem i_or (h : tt σ H fun c H1 => if c = true then QT true H1 else tu σ H1 QT) : tOr tt tu σ H QT := h
theorem i_if (h : tt σ H fun c H1 => if c = true then ta σ H1 Q else tb σ H1 Q) : tIf tt ta tb σ H Q := h
theorem i_notV (h : te σ H fun x H1 => ∃ c, x = .bl c ∧ Q (.bl (!c)) H1) : tNotV te σ H Q := h
theorem i_andV (h : ta σ H fun x H1 => ∃ c, x = .bl c ∧ if c = true then tb σ H1 Q else Q (.bl false) H1) : tAndV ta tb σ H Q := h
theorem i_orV (h : ta σ H fun x H1 => ∃ c, x = .bl c ∧ if c = true then Q (.bl true) H1 else tb σ H1 Q) : tOrV ta tb σ H Q := h
theorem i_nil (h : QA [] H) : tNil σ H QA := h
theorem i_cons (h : ta σ H fun x H1 => tA σ H1 fun xs H2 => QA (x :: xs) H2) : tCons ta tA σ H QA := h
theorem i_tup (h : tA σ H fun xs H1 => NewT xs H1 Q) : tTup tA σ H Q := h
theorem i_lst (h : tA σ H fun xs H1 => NewL xs H1 Q) : tLst tA σ H Q := h
theorem i_call (h : tA σ H fun vs H1 => sp (vs ++ dvs) H1 Q (WE W σ)) : tCallG sp dvs W tA σ H Q := h
theorem i_opS {r : L2.St → R2} (h : ta σ H fun x H1 => tb σ H1 fun y H2 => r σ x y H2 Q) : tOpS r ta tb σ H Q := h
theorem i_unS {r : L2.St → V → Hp → VK → Prop} (h : ta σ H fun x H1 => r σ x H1 Q) : tUnS r ta σ H Q := h
theorem i_cbS {r : L2.St → List V → Hp → VK → Prop} (h : tA σ H fun vs H1 => r σ vs H1 Q) : tCBS r tA σ H Q := h
theorem i_cb {r : List V → Hp → VK → Prop} (h : tA σ H fun vs H1 => r vs H1 Q) : tCB r tA σ H Q := h
theorem i_fld (h : ta σ H fun x H1 => GetF K f x H1 Q) : tFld K ta f σ H Q := h
theorem i_fldR (ho : H a = some (.ins C dx fs)) (hc : Cls K C) (hn : NoAttr K C f) (hl : fs.lookup f = some v) (h : Q v H) : GetF K f (.ref a) H Q := ⟨a, C, dx, fs, v, rfl, ho, hc, hn, hl, h⟩
theorem i_meth {m : Str} (h : ta σ H fun x H1 => GetM C m x H1 (tA σ H1 fun vs H2 => sp (x :: (vs ++ dvs)) H2 Q (WE W σ))) : tMethG C m sp dvs W ta tA σ H Q := h
theorem i_methR {m : Str} {G : Prop} (ho : H a = some (.ins C dx fs)) (hl : fs.lookup m = none) (h : G) : GetM C m (.ref a) H G := ⟨a, dx, fs, rfl, ho, hl, h⟩
theorem i_make (h : tA σ H fun vs H1 => NewI C sp (vs ++ dvs) (WE W σ) H1 Q) : tMakeG C sp dvs W tA σ H Q := h
theorem i_sfld {tv : TE} (h : tv σ H fun y H1 => ta σ H1 fun x H2 => PutF K f x y H2 (fun H3 => D.nx σ H3)) : sFld K ta tv f D σ H := h
theorem i_sfldR {G : Hp → Prop} (ho : H a = some (.ins C dx fs)) (hc : Cls K C) (hn : NoAttr K C f) (hl : fs.length < 1000) (h : ∀ H', Keep [a] H H' → H' a = some (.ins C dx (putF f y fs)) → G H') : PutF K f (.ref a) y H G := ⟨a, C, dx, fs, rfl, ho, hc, hn, hl, h _ (Keep.set' (by simp) ho (fun z => z)) upd_same⟩
/-! sequences -/
theorem i_ixL {xs : List V} {n : Int} (hs : SqL K H a xs) (ha : atI xs n = some v) (h : Q v H) : rIxL K (.ref a) (.int n) H Q := ⟨a, xs, n, v, rfl, rfl, hs, ha, h⟩
theorem i_ixT {xs : List V} {n : Int} (hs : SqT K H a xs) (ha : atI xs n = some v) (h : Q v H) : rIxT K (.ref a) (.int n) H Q := ⟨a, xs, n, v, rfl, rfl, hs, ha, h⟩
theorem i_setL {xs : List V} {n : Int} {G : Hp → Prop} (ho : H a = some (.lst xs)) (hi : ixN xs.length n = some j) (h : ∀ H', Keep [a] H H' → H' a = some (.lst (xs.set j v)) → G H') : rSetL (.ref a) (.int n) v H G :=
  ⟨a, xs, n, j, rfl, rfl, ho, hi, h _ (Keep.set' (by simp) ho (fun z => z)) upd_same⟩
theorem i_bm {T : String} {r : V → List V → Hp → VK → Prop} (h : ta σ H fun x H1 => tyV K T x H1 ∧ tA σ H1 fun xs H2 => r x xs H2 Q) : tBM K T r ta tA σ H Q := h
theorem i_bm0 {T : String} {r : V → List V → Hp → VK → Prop} (h : ta σ H fun x H1 => tyV K T x H1 ∧ r x [] H1 Q) : tBM0 K T r ta σ H Q := h
theorem i_tyL {xs : List V} {G : Prop} (hs : SqL K H a xs) (h : G) : tyV K "list" (.ref a) H ∧ G := ⟨.inl ⟨rfl, xs, hs⟩, h⟩
theorem i_app {l : Addr} {xs : List V} (ho : H l = some (.lst xs)) (hz : xs.length < sizeLine) (h : ∀ H', Keep [l] H H' → H' l = some (.lst (xs ++ [y])) → Q .non H') : rAppend (.ref l) [y] H Q :=
  ⟨l, xs, y, rfl, rfl, ho, hz, h _ (Keep.set' (by simp) ho (fun z => z)) upd_same⟩
theorem i_new {p : Addr} {o : HO} {G : Hp → Prop} (hp : H p = none) (h : ∀ H', Keep [] H H' → H' p = some o → G H') : G (upd H p o) := h _ (Keep.new hp) upd_same
theorem i_set {p : Addr} {o u : HO} {G : Hp → Prop} (hp : H p = some u) (hu : ¬ Imm u) (h : ∀ H', Keep [p] H H' → H' p = some o → G H') : G (upd H p o) := h _ (Keep.set' (by simp) hp hu) upd_same
theorem i_tupR {xs : List V} (hz : xs.length ≤ sizeLine) (h : ∀ p H', H p = none → Keep [] H H' → H' p = some (.tup xs) → Q (.ref p) H') : NewT xs H Q := ⟨hz, fun p hp => h p _ hp (Keep.new hp) upd_same⟩
theorem i_lstR {xs : List V} (hz : xs.length ≤ sizeLine) (h : ∀ p H', H p = none → Keep [] H H' → H' p = some (.lst xs) → Q (.ref p) H') : NewL xs H Q := ⟨hz, fun p hp => h p _ hp (Keep.new hp) upd_same⟩
theorem i_pop0 {l : Addr} {xs : List V} (ho : H l = some (.lst (y :: xs))) (h : ∀ H', Keep [l] H H' → H' l = some (.lst xs) → Q y H') : rPopAt (.ref l) [.int 0] H Q :=
  ⟨l, _, 0, 0, y, rfl, rfl, ho, by decide, by decide, seqIndex_of (by decide) (by rw [List.length_cons]; omega), rfl, h _ (Keep.set' (by simp) ho (fun z => z)) upd_same⟩
theorem i_int {n : Int} {G : Int → Prop} {B : Prop} (h : G n) : (∃ i, [V.int n] = [.int i] ∧ G i) ∨ B := .inl ⟨n, rfl, h⟩
theorem i_intB {k : Bool} {G : Bool → Prop} {B : Prop} (h : G k) : B ∨ ∃ k', [V.bl k] = [.bl k'] ∧ G k' := .inr ⟨k, rfl, h⟩
theorem i_abs {n : Int} {G : Int → Prop} (h : G n) : ∃ i, [V.int n] = [.int i] ∧ G i := ⟨n, rfl, h⟩
theorem abs_e (n : Int) : (if n < 0 then -n else n) = (n.natAbs : Int) := by omega
theorem sz_le {n : Nat} (h : n ≤ 1000000) : n ≤ sizeLine := Nat.le_trans h (by decide)
theorem sz_lt {n : Nat} (h : n < 1000000) : n < sizeLine := Nat.lt_of_lt_of_le h (by decide)
theorem hr64 {k : Nat} {A : Around} (hr : Room k A) : A.units + 64 < cLine := by have := hr.un; omega
theorem hr65 {k : Nat} {A : Around} (hr : Room k A) : A.units + 65 < cLine := by have := hr.un; omega
/-! branches -/
theorem b_eqI {A B : Prop} {m n : Int} (h1 : m = n → A) (h2 : m ≠ n → B) : if decide (V.int m = V.int n) = true then A else B := by
  by_cases h : m = n
  · rw [if_pos (by simp [h])]; exact h1 h
  · rw [if_neg (by simp [h])]; exact h2 h
theorem b_neI {A B : Prop} {m n : Int} (h1 : m ≠ n → A) (h2 : m = n → B) : if (!decide (V.int m = V.int n)) = true then A else B := by
  by_cases h : m = n
  · rw [if_neg (by simp [h])]; exact h2 h
  · rw [if_pos (by simp [h])]; exact h1 h
theorem b_dec {A B c : Prop} [Decidable c] (h1 : c → A) (h2 : ¬ c → B) : if decide c = true then A else B := by
  by_cases h : c
  · rw [if_pos (by simp [h])]; exact h1 h
  · rw [if_neg (by simp [h])]; exact h2 h
theorem b_ndec {A B c : Prop} [Decidable c] (h1 : ¬ c → A) (h2 : c → B) : if (!decide c) = true then A else B := by
  by_cases h : c
  · rw [if_neg (by simp [h])]; exact h2 h
  · rw [if_pos (by simp [h])]; exact h1 h
theorem b_bool {A B : Prop} {c : Bool} (h1 : c = true → A) (h2 : c = false → B) : if c = true then A else B := by
  cases c with
  | true => rw [if_pos rfl]; exact h1 rfl
  | false => rw [if_neg (by simp)]; exact h2 rfl
theorem b_nbool {A B : Prop} {c : Bool} (h1 : c = false → A) (h2 : c = true → B) : if (!c) = true then A else B := by
  cases c with
  | true => rw [if_neg (by simp)]; exact h2 rfl
  | false => rw [if_pos (by simp)]; exact h1 rfl
theorem b_t {A B : Prop} (h1 : A) : if true = true then A else B := by rw [if_pos rfl]; exact h1
theorem b_f {A B : Prop} (h1 : B) : if false = true then A else B := by rw [if_neg (by simp)]; exact h1
theorem b_nt {A B : Prop} (h1 : B) : if (!true) = true then A else B := by rw [if_neg (by simp)]; exact h1
theorem b_nf {A B : Prop} (h1 : A) : if (!false) = true then A else B := by rw [if_pos (by simp)]; exact h1
end
end PB
local macro_rules | `(tactic| walk_at "pb1") => `(tactic| with_reducible (first
  | apply PB.i_seq | apply PB.i_asg | (refine PB.i_var rfl ?_) | apply PB.i_c | apply PB.i_op | apply PB.i_cons | apply PB.i_nil | apply PB.i_call | apply PB.i_opS | apply PB.i_unS | apply PB.i_cbS | apply PB.i_ifS | apply PB.i_test | apply PB.i_bl | apply PB.i_gname
  | apply PB.i_rI0 | (refine PB.i_rEq rfl ?_) | (refine PB.i_rNe rfl ?_) | apply PB.i_ret | apply PB.i_par | apply PB.i_par2 | apply PB.i_cb | apply PB.i_next | apply PB.i_drop | apply PB.i_un | apply PB.i_rU | apply PB.i_B | apply PB.i_not | apply PB.i_and | apply PB.i_or | apply PB.i_if
  | apply PB.i_andV | apply PB.i_orV | apply PB.i_notV | apply PB.i_retN | apply PB.i_tup | apply PB.i_lst | apply PB.i_fld | apply PB.i_meth | apply PB.i_make | apply PB.i_sfld | apply PB.i_gcons | apply PB.i_gnil | apply PB.i_gsub | apply PB.i_ipI | (refine PB.i_aug rfl ?_) | apply PB.i_brk | apply PB.i_cont | apply PB.i_bm | apply PB.i_bm0 | apply PB.i_int | apply PB.i_abs | apply PB.i_intB | apply PB.b_t | apply PB.b_f | apply PB.b_nt | apply PB.b_nf))
local macro_rules | `(tactic| walk_at "pb") => `(tactic| first | (walk_at "pb1"; repeat (walk_at "pb1")) | (dsimp only; repeat (walk_at "pb1")) | skip)
local macro_rules | `(tactic| walk_at "sz") => `(tactic| first | exact Nat.zero_le _ | (refine PB.sz_le ?_; simp; done) | (refine PB.sz_le ?_; simp <;> omega) | (refine PB.sz_lt ?_; simp; done) | (refine PB.sz_lt ?_; simp <;> omega) | (refine PB.sz_le ?_; omega) | (refine PB.sz_lt ?_; omega))
local macro_rules | `(tactic| walk_at "rng") => `(tactic| (simp only [Int.mul_add, Int.add_mul, Int.mul_sub, Int.sub_mul, Int.neg_mul, Int.mul_neg, Int.mul_assoc, Int.mul_comm, Int.mul_left_comm, Int.mul_one, Int.one_mul, Int.mul_zero, Int.zero_mul] <;> omega))
namespace PB
open PySem PySem.Spec PyProof.Rows L2
/-! ## data -/
theorem dpAll_ints {K : PySem.W.Frag} {H : Hp} : ∀ ns : List Int, DpAll K H (ns.map V.int) (ns.map PyData.int)
  | [] => .nil
  | n :: ns => .cons (.int n) (dpAll_ints ns)
theorem canLay_ints : ∀ ns : List Int, PyData.canLayAll0 (ns.map PyData.int) = true
  | [] => by simp [PyData.canLayAll0]
  | n :: ns => by simp [PyData.canLayAll0, PyData.canLay0, canLay_ints ns]
theorem depth_ints : ∀ ns : List Int, PyData.depthAll (ns.map PyData.int) = 0
  | [] => by simp [PyData.depthAll]
  | n :: ns => by simp [PyData.depthAll, PyData.depth, depth_ints ns]
theorem shaped_ints (ns : List Int) : SeqAt.shaped (.list (ns.map PyData.int)) = true := by
  simp [SeqAt.shaped, PyData.canLay0, canLay_ints, PyData.depth, depth_ints]
theorem i_neNil {K : PySem.W.Frag} {H : Hp} {Q : VK} {l p : Addr} {ns : List Int} (hl : H l = some (.lst (ns.map V.int))) (hp : H p = some (.lst [])) (h : Q (.bl (!ns.isEmpty)) H) : rNeD K (.ref l) (.ref p) H Q := by
  refine ⟨.list (ns.map PyData.int), .list [], .lst (SqL.of hl) (dpAll_ints ns), .lst (SqL.of hp) .nil, shaped_ints ns, shaped_ints [], ?_⟩
  have e : PyData.eqv (.list (ns.map PyData.int)) (.list []) = ns.isEmpty := by
    cases ns <;> simp [PyData.eqv, PyData.eqvAll]
  rw [e]
  exact h
/-! ## the spring of draws -/
/-- the spring of draws at S, its cells at l: at most n draws so far -/
structure Stm (S l : Addr) (n : Nat) (H : Hp) : Prop where
  ne : S ≠ l
  ex : ∃ (rest : List Int) (c m : Int) (q : Nat), q ≤ n ∧ H S = some (.lst [.ref l, .int c, .int q, .int m]) ∧ H l = some (.lst (rest.map V.int)) ∧ rest.length ≤ 63 ∧ 0 ≤ m ∧ m < 2147483647
theorem Stm.mono {S l : Addr} {n k : Nat} {H : Hp} (h : Stm S l n H) (hk : n ≤ k) : Stm S l k H :=
  ⟨h.ne, let ⟨r, c, m, q, a, b⟩ := h.ex; ⟨r, c, m, q, Nat.le_trans a hk, b⟩⟩
theorem Stm.keep {S l : Addr} {n : Nat} {ms : List Addr} {H H' : Hp} (h : Stm S l n H) (k : Keep ms H H') (h1 : S ∉ ms) (h2 : l ∉ ms) : Stm S l n H' :=
  ⟨h.ne, let ⟨r, c, m, q, a, b, e, f⟩ := h.ex; ⟨r, c, m, q, a, k.at_ _ _ h1 b, k.at_ _ _ h2 e, f⟩⟩
theorem Stm.fresh {S l : Addr} {n : Nat} {H : Hp} {p : Addr} (h : Stm S l n H) (hp : H p = none) : p ∉ [S, l] := by
  obtain ⟨_, _, _, _, _, a, b, _⟩ := h.ex
  have h1 := ne_of_none a hp
  have h2 := ne_of_none b hp
  simpa using ⟨h1.symm, h2.symm⟩
/-- what stands at the spring's places is a list -/
theorem Stm.off {S l : Addr} {n : Nat} {H : Hp} {p : Addr} {o : HO} (h : Stm S l n H) (hp : H p = some o) (ho : ∀ xs, o ≠ .lst xs) : p ∉ [S, l] := by
  obtain ⟨_, _, _, _, _, a, b, _⟩ := h.ex
  have h1 := ne_of hp a (ho _)
  have h2 := ne_of hp b (ho _)
  simpa using ⟨h1, h2⟩
/-- _law_draw -/
def spDraw : Sp := fun vs H Q _ => ∃ (S l : Addr) (n : Nat) (many : Int), vs = [.ref S, .int many] ∧ 0 < many ∧ many.natAbs < 2 ^ 9000 ∧ n < 10000000 ∧ Stm S l n H ∧
  ∀ H' r, Keep [S, l] H H' → Stm S l (n + 1) H' → 0 ≤ r → r < many → Q (.int r) H'
theorem p64 : (2 : Nat) ^ 64 = 18446744073709551616 := by decide
theorem mulW_small {i j : Int} (hi : i.natAbs < 2 ^ 64) (hj : j.natAbs < 2 ^ 64) : CMulW i j := wide_mul hi hj (by decide) (by decide) (by decide)
end PB
namespace PB
open PySem PySem.W PyProof.Rows Builtin
/-! ## operators of own classes -/
section
variable {prog : Program} {w : World} {A : Around} {E : Value → Shared → Prop} {s : Shared} {K : Frag} {x C L f : Addr} {h₀ : Heap} {m : Str → Option Value} {ox : Obj} {od : Option Obj}
theorem mro_of {cd : ClassData} (hm : cd.mro.head? == some (.ref C)) : ∃ rest, cd.mro = .ref C :: rest := by
  cases q : cd.mro with
  | nil => rw [q] at hm; cases hm
  | cons a r => rw [q] at hm; exact ⟨r, by rw [List.head?_cons] at hm; cases (beq_iff_eq.mp hm); rfl⟩
/-- what a look-up by name of an own class's method gives, for numberSlotInPython -/
def rvOk (rv : Option Value) : Bool := match rv with
  | none => true
  | some (.ref _) => true
  | _ => false
theorem slotPy {M : Model} {h : Heap} {nm : String} {rv : Option Value} (X : K.In h) (hs : findIn K (.ref C) (PySem.dunder nm) = some (some (.ref f))) (hr : findIn K (.ref C) (dunderR nm) = some rv) (hrv : rvOk rv = true) : Looks M h (numberSlotInPython (.ref C) nm) true := by
  intro A Q E s k q
  unfold numberSlotInPython
  refine wpAny_bind (looks_findIn X hs A _ E s k ?_)
  refine wpAny_bind (wpAny_pure ?_)
  refine wpAny_bind (looks_findIn X hr A _ E s k ?_)
  cases rv with
  | none =>
    refine wpAny_bind (wpAny_pure ?_)
    exact wpAny_pure q
  | some v =>
    cases v with
    | ref g =>
      refine wpAny_bind (wpAny_pure ?_)
      exact wpAny_pure q
    | _ => cases hrv
/-- own op builtin -/
theorem binop1_KI {T nm : String} {b : Value} {rv : Option Value} {tk : Option Value} {Q : Value → Shared → Prop} (F : Fr h₀ L s.heap m) (X₀ : K.In h₀) (I : InstAt s.heap x ox C od) (hb : Looks (model prog w) s.heap (typeOf b) (.type T)) (hc : selfFirst K C = true)
    (hfb : fillsNumberSlot (.type T) nm = pure true) (hsub : subIn K (.type T) (.ref C) = some false) (htk : typeLookup (.type T) (dunderR nm) = pure tk)
    (hs : findIn K (.ref C) (PySem.dunder nm) = some (some (.ref f))) (hr : findIn K (.ref C) (dunderR nm) = some rv) (hrv : rvOk rv = true) (hf : isFn K (.ref f) = true)
    (h : wpAny (model prog w) A (call (.ref f) [.ref x, b]) (W.CmpBack Q) E s) : wpAny (model prog w) A (binaryOp1 nm (.ref x) b) (fun r s' => ∃ v, r = some v ∧ Q v s') E s := by
  have X := X₀.keeps F.keep
  obtain ⟨cd, hcd, hm⟩ := any_some hc
  obtain ⟨rest, hm⟩ := mro_of hm
  unfold binaryOp1
  refine wpAny_bind (I.type.here (wpAny_bind (hb.here (wpAny_bind ((fills_K X hcd hm hs).here ?_)))))
  have hne : ((Value.ref C) == (Value.type T)) = false := by simp
  simp only [hne, Bool.false_eq_true, if_false]
  refine wpAny_bind (wpAny_of_eq hfb ?_)
  simp only [Bool.and_true, if_true, Bool.and_self]
  refine wpAny_bind ((looks_subIn X hsub).here ?_)
  simp only [Bool.false_eq_true, if_false, Bool.not_false, if_true]
  refine wpAny_bind ((slotPy X hs hr hrv).here ?_)
  simp only [if_true]
  refine wpAny_bind (wpAny_of_eq (show numberSlotInPython (.type T) nm = pure false from rfl) ?_)
  simp only [Bool.not_false, if_true]
  refine wpAny_bind (wpAny_of_eq htk ?_)
  refine wpAny_bind (m := tryMethod (.ref x) _ b) ?_
  unfold tryMethod
  refine wpAny_bind (special_fn X I hs (beq_iff_eq.mp hf) (wpAny_mono h (fun v s' hv => ?_) fun _ _ e => e))
  cases v <;> first | exact hv.elim | exact wpAny_pure (wpAny_pure ⟨_, rfl, hv⟩)
/-- builtin op own, the builtin declines -/
theorem binop1_IK {T nm id : String} {a : Value} {g : Addr} {Q : Value → Shared → Prop} (F : Fr h₀ L s.heap m) (X₀ : K.In h₀) (I : InstAt s.heap x ox C od) (ha : s.TypeIs a T) (hc : selfFirst K C = true)
    (hfa : fillsNumberSlot (.type T) nm = pure true) (sl : Slot T (PySem.dunder nm) id) (hsub : subIn K (.ref C) (.type T) = some false)
    (hs : findIn K (.ref C) (PySem.dunder nm) = some (some (.ref f))) (hr : findIn K (.ref C) (dunderR nm) = some (some (.ref g))) (hg : isFn K (.ref g) = true)
    (hd : wpAny (model prog w) A (call (.builtin id) [a, .ref x]) (fun v s' => v = .notImplemented ∧ s' = s) E s)
    (h : wpAny (model prog w) A (call (.ref g) [.ref x, a]) (W.CmpBack Q) E s) : wpAny (model prog w) A (binaryOp1 nm a (.ref x)) (fun r s' => ∃ v, r = some v ∧ Q v s') E s := by
  have X := X₀.keeps F.keep
  obtain ⟨cd, hcd, hm⟩ := any_some hc
  obtain ⟨rest, hm⟩ := mro_of hm
  unfold binaryOp1
  refine wpAny_bind (wpAny_typeOf ha (wpAny_bind (I.type.here (wpAny_bind (wpAny_of_eq hfa ?_)))))
  have hne : ((Value.type T) == (Value.ref C)) = false := by simp
  simp only [hne, Bool.false_eq_true, if_false]
  refine wpAny_bind ((fills_K X hcd hm hs).here ?_)
  simp only [Bool.and_true, if_true, Bool.and_self]
  refine wpAny_bind ((looks_subIn X hsub).here ?_)
  simp only [Bool.false_eq_true, if_false, Bool.not_false, if_true]
  refine wpAny_bind (wpAny_of_eq (show numberSlotInPython (.type T) nm = pure false from rfl) ?_)
  simp only [Bool.false_eq_true, if_false]
  refine wpAny_bind (wpAny_tryMethod_declines ha sl (wpAny_mono hd (fun v s' hv => ?_) fun _ _ e => e))
  obtain ⟨rfl, rfl⟩ := hv
  refine ⟨rfl, ?_⟩
  refine wpAny_bind (m := tryMethod (.ref x) _ a) ?_
  unfold tryMethod
  refine wpAny_bind (special_fn X I hr (beq_iff_eq.mp hg) (wpAny_mono h (fun v s' hv => ?_) fun _ _ e => e))
  cases v <;> first | exact hv.elim | exact wpAny_pure (wpAny_bind (wpAny_rule (wpAny_pure ⟨_, rfl, hv⟩)))
end
end PB
namespace PB
open PySem PySem.Spec PyProof.Rows L2
section
variable {X : Cx} {CX : CXT} {k : Nat} {f C : Addr} {fd : FuncData} {ps : List Str} {sp : Sp} {dvs : List V} {ds : List Value} {E : XK} {W : WX} {c mt : Str}
/-- a method by its class's and its own name: what callers have -/
theorem OkM.runA {A' : Around} (hA : A'.frames = X.A.frames) {pins : List (Addr × Obj)} {σ : L2.St} {H : Hp} {s : Shared} {Q : VK} {us : List Value} {vs : List V} (O : OkM X.prog X.w X.K X.mg X.base CX k c mt ps dvs sp) (hr : Room k A') (hx : PassesAt CX X σ E)
    (I : Inv X pins σ H s) (r : Vals vs us) (h : sp (vs ++ dvs) H Q E) : wpAny (model X.prog X.w) A' (call (.ref (He.ma X.K (He.ga X.K c) mt)) us) (EP X pins σ Q) X.xe s := by
  obtain ⟨fd, ds, F, hc, hm, hb, hd⟩ := O
  exact run_fnA hA F hr hb hd hx I r h
theorem OkM.meth (O : OkM X.prog X.w X.K X.mg X.base CX k c mt ps dvs sp) : Meth X.K (He.ga X.K c) mt (He.ma X.K (He.ga X.K c) mt) := let ⟨_, _, _, _, m, _⟩ := O; m
theorem inst_of {pins : List (Addr × Obj)} {σ : L2.St} {H : Hp} {s : Shared} {a C dx : Addr} {fs : List (Str × V)} (I : Inv X pins σ H s) (e : H a = some (.ins C dx fs)) : ∃ od, PySem.W.InstAt s.heap a (PySem.W.instObj C dx) C (some od) := by
  obtain ⟨mA, J, _⟩ := ins_get I.hok e
  obtain ⟨od, J, _⟩ := J.look
  exact ⟨od, J⟩
theorem cmpBack_of {Q : Value → Shared → Prop} {v : V} {u : Value} {s : Shared} (r : RelV v u) (q : Q u s) : PySem.W.CmpBack Q u s := by
  cases v with
  | non => cases (show u = Value.none from r); exact q
  | bl b => cases (show u = Value.bool b from r); exact q
  | int i => obtain ⟨t, rfl⟩ := (show ∃ t, u = Value.int i t from r); exact q
  | str i => obtain ⟨t, rfl⟩ := (show ∃ t, u = Value.str i t from r); exact q
  | byt i => obtain ⟨t, rfl⟩ := (show ∃ t, u = Value.bytes i t from r); exact q
  | flt i => obtain ⟨t, rfl⟩ := (show ∃ t, u = Value.float i t from r); exact q
  | ref a => cases (show u = Value.ref a from r); exact q
  | ty n => cases (show u = Value.type n from r); exact q
/-- facts of an own class that stands beside ints -/
structure OwnN (K : PySem.W.Frag) (C : Addr) : Prop where
  sf : PySem.W.selfFirst K C = true
  si : PySem.W.subIn K (.type "int") (.ref C) = some false
  is_ : PySem.W.subIn K (.ref C) (.type "int") = some false
def ownNB (x : Str) (K : PySem.W.Frag) : Bool := PySem.W.selfFirst K (He.ga K x) && (decide (PySem.W.subIn K (.type "int") (.ref (He.ga K x)) = some false) && decide (PySem.W.subIn K (.ref (He.ga K x)) (.type "int") = some false))
theorem ownN_of {x : Str} {K : PySem.W.Frag} (h : ownNB x K = true) : OwnN K (He.ga K x) := by
  obtain ⟨a, b⟩ := He.ba h
  obtain ⟨b, d⟩ := He.ba b
  exact ⟨a, of_decide_eq_true b, of_decide_eq_true d⟩
/-- what is found under a reflected name -/
def RvI (K : PySem.W.Frag) (C : Addr) (nm : Str) : Prop := ∃ rv, PySem.W.findIn K (.ref C) nm = some rv ∧ rvOk rv = true
def rvB (x nm : Str) (K : PySem.W.Frag) : Bool := match PySem.W.findIn K (.ref (He.ga K x)) nm with
  | some rv => rvOk rv
  | none => false
theorem rv_of {x nm : Str} {K : PySem.W.Frag} (h : rvB x nm K = true) : RvI K (He.ga K x) nm := by
  unfold rvB at h
  cases e : PySem.W.findIn K (.ref (He.ga K x)) nm with
  | none => rw [e] at h; cases h
  | some rv => rw [e] at h; exact ⟨rv, e, h⟩
theorem rv_meth {K : PySem.W.Frag} {C f : Addr} {nm : Str} (h : Meth K C nm f) : RvI K C nm := ⟨_, h.at_, rfl⟩
/-- own op y: y an instance of the same class or an int -/
def rOwn (C : Addr) (sp : Sp) (W : WX) : L2.St → R2 := fun σ x y H Q => ∃ a dx fs, x = .ref a ∧ H a = some (.ins C dx fs) ∧ ((∃ b dy gs, y = .ref b ∧ H b = some (.ins C dy gs)) ∨ ∃ j, y = .int j) ∧ sp [x, y] H Q (WE W σ)
def rROwn (C : Addr) (sp : Sp) (W : WX) : L2.St → R2 := fun σ x y H Q => ∃ i b dx fs, x = .int i ∧ y = .ref b ∧ H b = some (.ins C dx fs) ∧ sp [y, x] H Q (WE W σ)
theorem binop_of1 {op : Operator} {a b : Value} {M : Model} {A : Around} {Q : Value → Shared → Prop} {E : Value → Shared → Prop} {s : Shared} (h : wpAny M A (binaryOp1 op.info.2 a b) (fun r s' => ∃ v, r = some v ∧ Q v s') E s) : wpAny M A (binaryOp op a b) Q E s := by
  rcases hi : op.info with ⟨sym, nm⟩
  rw [hi] at h
  simp only [binaryOp, hi]
  refine wpAny_holding (wpAny_bind (wpAny_mono h (fun r s' hr => ?_) fun _ _ z => z))
  obtain ⟨v, rfl, q⟩ := hr
  exact wpAny_pure q
theorem op_own {op : Operator} {tk : Option Value} (O : OkM X.prog X.w X.K X.mg X.base CX k c (dunder op.info.2) ps [] sp) (N : OwnN X.K (He.ga X.K c)) (R : RvI X.K (He.ga X.K c) (dunderR op.info.2)) (hr : Room k X.A) (hx : ∀ σ, PassesAt CX X σ (WE W σ))
    (hfb : fillsNumberSlot (.type "int") op.info.2 = pure true) (htk : typeLookup (.type "int") (dunderR op.info.2) = pure tk) : OpRS X (binaryOp op) (rOwn (He.ga X.K c) sp W) := by
  intro pins s σ H x y v u Q I rx ry h
  obtain ⟨a, dx, fs, rfl, ha, hy, hs⟩ := h
  cases rx
  obtain ⟨od, J⟩ := inst_of I ha
  obtain ⟨m, hF⟩ := I.fr
  obtain ⟨rv, hrv, hrk⟩ := R
  rcases hy with ⟨b, dy, gs, rfl, hb⟩ | ⟨j, rfl⟩
  · cases ry
    obtain ⟨od', J'⟩ := inst_of I hb
    refine PySem.W.binop_K (op := op) hF I.ok.mod.kin J J'.type N.sf O.meth.at_ O.meth.fn ?_
    refine wpAny_mono (O.runA rfl hr (hx σ) I (vs := [.ref a, .ref b]) (.cons rfl (.cons rfl .nil)) hs) (fun u s' hu => ?_) fun _ _ z => z
    obtain ⟨v, H', I', r, q⟩ := hu
    exact cmpBack_of (Q := EP X pins σ Q) r ⟨v, H', I', r, q⟩
  · obtain ⟨t, rfl⟩ := ry
    refine binop_of1 (binop1_KI (T := "int") hF I.ok.mod.kin J (PySem.W.Looks.of_pure rfl) N.sf hfb N.si htk O.meth.at_ hrv hrk O.meth.fn ?_)
    refine wpAny_mono (O.runA rfl hr (hx σ) I (vs := [.ref a, .int j]) (.cons rfl (.cons ⟨t, rfl⟩ .nil)) hs) (fun u s' hu => ?_) fun _ _ z => z
    obtain ⟨v, H', I', r, q⟩ := hu
    exact cmpBack_of (Q := EP X pins σ Q) r ⟨v, H', I', r, q⟩
/-- an int's method declines an own instance -/
def Decl (id : String) : Prop := ∀ (prog : Program) (w : World) (A : Around) (E : Value → Shared → Prop) (s : Shared) (i : Int) (t : Tok) (a C dx : Addr), s.heap.get? a = some (PySem.W.instObj C dx) → wpAny (model prog w) A (call (.builtin id) [.int i t, .ref a]) (fun v s' => v = .notImplemented ∧ s' = s) E s
theorem op_rown {op : Operator} {id : String} {f : Addr} (O : OkM X.prog X.w X.K X.mg X.base CX k c (dunderR op.info.2) ps [] sp) (M : Meth X.K (He.ga X.K c) (dunder op.info.2) f) (N : OwnN X.K (He.ga X.K c)) (hr : Room k X.A) (hx : ∀ σ, PassesAt CX X σ (WE W σ))
    (hfb : fillsNumberSlot (.type "int") op.info.2 = pure true) (sl : Slot "int" (dunder op.info.2) id) (hd : Decl id) : OpRS X (binaryOp op) (rROwn (He.ga X.K c) sp W) := by
  intro pins s σ H x y v u Q I rx ry h
  obtain ⟨i, b, dx, fs, rfl, rfl, hb, hs⟩ := h
  cases ry
  obtain ⟨t, rfl⟩ := rx
  obtain ⟨od, J⟩ := inst_of I hb
  obtain ⟨m, hF⟩ := I.fr
  refine binop_of1 (binop1_IK (T := "int") hF I.ok.mod.kin J (typeIs_int s i t) N.sf hfb sl N.is_ M.at_ O.meth.at_ O.meth.fn (hd _ _ _ _ _ _ _ _ _ _ J.at_) ?_)
  refine wpAny_mono (O.runA rfl hr (hx σ) I (vs := [.ref b, .int i]) (.cons rfl (.cons ⟨t, rfl⟩ .nil)) hs) (fun u s' hu => ?_) fun _ _ z => z
  obtain ⟨v, H', I', r, q⟩ := hu
  exact cmpBack_of (Q := EP X pins σ Q) r ⟨v, H', I', r, q⟩
/-- an own instance alone -/
def rOwn1 (C : Addr) (sp : Sp) (W : WX) : L2.St → V → Hp → VK → Prop := fun σ x H Q => ∃ a dx fs, x = .ref a ∧ H a = some (.ins C dx fs) ∧ sp [x] H Q (WE W σ)
theorem un_negOwn (O : OkM X.prog X.w X.K X.mg X.base CX k c "__neg__" ps [] sp) (hr : Room k X.A) (hx : ∀ σ, PassesAt CX X σ (WE W σ)) : UnRS X (unaryOp .USub) (rOwn1 (He.ga X.K c) sp W) := by
  intro pins s σ H x v Q I rx h
  obtain ⟨a, dx, fs, rfl, ha, hs⟩ := h
  cases rx
  obtain ⟨od, J⟩ := inst_of I ha
  show wpAny _ _ (holding [.ref a] _) _ _ _
  refine wpAny_holding ?_
  refine wpAny_bind (m := callSpecial? (.ref a) (Str.ofString "__neg__")) (PySem.W.special_fn I.kIn J O.meth.at_ (beq_iff_eq.mp O.meth.fn) (wpAny_mono (O.runA rfl hr (hx σ) I (vs := [.ref a]) (.cons rfl .nil) hs) (fun u s' hu => wpAny_pure hu) fun _ _ z => z))
theorem un_invOwn (O : OkM X.prog X.w X.K X.mg X.base CX k c "__invert__" ps [] sp) (hr : Room k X.A) (hx : ∀ σ, PassesAt CX X σ (WE W σ)) : UnRS X (unaryOp .Invert) (rOwn1 (He.ga X.K c) sp W) := by
  intro pins s σ H x v Q I rx h
  obtain ⟨a, dx, fs, rfl, ha, hs⟩ := h
  cases rx
  obtain ⟨od, J⟩ := inst_of I ha
  show wpAny _ _ (holding [.ref a] _) _ _ _
  refine wpAny_holding ?_
  refine wpAny_bind (m := callSpecial? (.ref a) (Str.ofString "__invert__")) (PySem.W.special_fn I.kIn J O.meth.at_ (beq_iff_eq.mp O.meth.fn) (wpAny_mono (O.runA rfl hr (hx σ) I (vs := [.ref a]) (.cons rfl .nil) hs) (fun u s' hu => wpAny_pure hu) fun _ _ z => z))
theorem call_absOwn (O : OkM X.prog X.w X.K X.mg X.base CX k c "__abs__" ps [] sp) (hr : Room (k + 1) X.A) (hx : ∀ σ, PassesAt CX X σ (WE W σ)) : CallRS X (.builtin "abs") (fun σ xs H Q => ∃ x, xs = [x] ∧ rOwn1 (He.ga X.K c) sp W σ x H Q) := by
  intro pins s σ H xs us Q I r h
  obtain ⟨x, rfl, a, dx, fs, rfl, ha, hs⟩ := h
  obtain ⟨u, rfl, rx⟩ := vals1 r
  cases rx
  obtain ⟨od, J⟩ := inst_of I ha
  refine Calls.call_function_entry kind_abs plain_abs entry_abs (args_abs _) ?_
  unfold Builtin.«abs»
  refine wpAny_bind (m := oneArg "abs" _) (wpAny_pure ?_)
  refine wpAny_bind (m := callSpecial? (.ref a) (Str.ofString "__abs__")) (PySem.W.special_fn I.kIn J O.meth.at_ (beq_iff_eq.mp O.meth.fn) (wpAny_mono (O.runA (A' := X.A.in1) rfl hr.in1 (hx σ) I (vs := [.ref a]) (.cons rfl .nil) hs) (fun u s' hu => ?_) fun _ _ z => z))
  exact wpAny_pure ⟨_, rfl, hu⟩
theorem call_lenOwn (O : OkM X.prog X.w X.K X.mg X.base CX k c "__len__" ps [] sp) (hr : Room (k + 1) X.A) (hx : ∀ σ, PassesAt CX X σ (WE W σ)) : CallRS X (.builtin "len") (fun σ xs H Q => ∃ x, xs = [x] ∧ rOwn1 (He.ga X.K c) sp W σ x H fun v H' => ∃ n : Int, v = .int n ∧ 0 ≤ n ∧ n < 2 ^ 63 ∧ Q (.int n) H') := by
  intro pins s σ H xs us Q I r h
  obtain ⟨x, rfl, a, dx, fs, rfl, ha, hs⟩ := h
  obtain ⟨u, rfl, rx⟩ := vals1 r
  cases rx
  obtain ⟨od, J⟩ := inst_of I ha
  obtain ⟨m, hF⟩ := I.fr
  refine PySem.W.len_K hF I.ok.mod.kin J O.meth.at_ O.meth.fn (wpAny_mono (O.runA (A' := X.A.in1) rfl hr.in1 (hx σ) I (vs := [.ref a]) (.cons rfl .nil) hs) (fun u s' hu => ?_) fun _ _ z => z)
  obtain ⟨v, H', I', r, n, rfl, h0, h1, q⟩ := hu
  obtain ⟨t, rfl⟩ := r
  exact ⟨⟨h0, h1⟩, .int n, H', I'.tok _, ⟨_, rfl⟩, q⟩
/-- x == y .. by own comparisons: y an instance of the same class or an int -/
theorem op_cmpOwn {op : CmpOp} {nm : Str} (hn : (cmpInfo op).2.1 = nm) (hop : compareOp op = richCompare op) (O : OkM X.prog X.w X.K X.mg X.base CX k c nm ps [] sp) (N : OwnN X.K (He.ga X.K c)) (hr : Room k X.A) (hx : ∀ σ, PassesAt CX X σ (WE W σ)) : OpRS X (compareOp op) (rOwn (He.ga X.K c) sp W) := by
  intro pins s σ H x y v u Q I rx ry h
  obtain ⟨a, dx, fs, rfl, ha, hy, hs⟩ := h
  cases rx
  obtain ⟨od, J⟩ := inst_of I ha
  obtain ⟨m, hF⟩ := I.fr
  rw [hop]
  subst hn
  rcases hy with ⟨b, dy, gs, rfl, hb⟩ | ⟨j, rfl⟩
  · cases ry
    obtain ⟨od', J'⟩ := inst_of I hb
    refine PySem.W.cmp_K (op := op) (tb := .ref (He.ga X.K c)) hr.units0 hF I.ok.mod.kin J J'.type (by simp [PySem.W.notFirst]) O.meth.at_ O.meth.fn ?_
    refine wpAny_mono (O.runA rfl hr (hx σ) I (vs := [.ref a, .ref b]) (.cons rfl (.cons rfl .nil)) hs) (fun u s' hu => ?_) fun _ _ z => z
    obtain ⟨v, H', I', r, q⟩ := hu
    exact cmpBack_of (Q := EP X pins σ Q) r ⟨v, H', I', r, q⟩
  · obtain ⟨t, rfl⟩ := ry
    refine PySem.W.cmp_K (op := op) (tb := .type "int") hr.units0 hF I.ok.mod.kin J (PySem.W.Looks.of_pure rfl) (by simp [PySem.W.notFirst, N.si]) O.meth.at_ O.meth.fn ?_
    refine wpAny_mono (O.runA rfl hr (hx σ) I (vs := [.ref a, .int j]) (.cons rfl (.cons ⟨t, rfl⟩ .nil)) hs) (fun u s' hu => ?_) fun _ _ z => z
    obtain ⟨v, H', I', r, q⟩ := hu
    exact cmpBack_of (Q := EP X pins σ Q) r ⟨v, H', I', r, q⟩
/-- v in x, v not in x, by an own __contains__ that gives a bool -/
def rInOwn (C : Addr) (sp : Sp) (W : WX) (neg : Bool) : L2.St → R2 := fun σ x y H Q => ∃ a dx fs, y = .ref a ∧ H a = some (.ins C dx fs) ∧ sp [y, x] H (fun v H' => ∃ b, v = .bl b ∧ Q (.bl (if neg then !b else b)) H') (WE W σ)
theorem op_inOwn (O : OkM X.prog X.w X.K X.mg X.base CX k c "__contains__" ps [] sp) (hr : Room k X.A) (hx : ∀ σ, PassesAt CX X σ (WE W σ)) : OpRS X (compareOp .In) (rInOwn (He.ga X.K c) sp W false) := by
  intro pins s σ H x y v u Q I rx ry h
  obtain ⟨a, dx, fs, rfl, ha, hs⟩ := h
  cases ry
  obtain ⟨od, J⟩ := inst_of I ha
  obtain ⟨m, hF⟩ := I.fr
  refine PySem.W.in_K hF I.ok.mod.kin J O.meth.at_ O.meth.fn (wpAny_mono (O.runA rfl hr (hx σ) I (vs := [.ref a, x]) (.cons rfl (.cons rx .nil)) hs) (fun u s' hu => ?_) fun _ _ z => z)
  obtain ⟨v, H', I', r, b, rfl, q⟩ := hu
  cases r
  exact wpAny_truthy_bool ⟨.bl b, H', I', rfl, q⟩
theorem op_notinOwn (O : OkM X.prog X.w X.K X.mg X.base CX k c "__contains__" ps [] sp) (hr : Room k X.A) (hx : ∀ σ, PassesAt CX X σ (WE W σ)) : OpRS X (compareOp .NotIn) (rInOwn (He.ga X.K c) sp W true) := by
  intro pins s σ H x y v u Q I rx ry h
  obtain ⟨a, dx, fs, rfl, ha, hs⟩ := h
  cases ry
  obtain ⟨od, J⟩ := inst_of I ha
  obtain ⟨m, hF⟩ := I.fr
  refine PySem.W.notIn_K hF I.ok.mod.kin J O.meth.at_ O.meth.fn (wpAny_mono (O.runA rfl hr (hx σ) I (vs := [.ref a, x]) (.cons rfl (.cons rx .nil)) hs) (fun u s' hu => ?_) fun _ _ z => z)
  obtain ⟨v, H', I', r, b, rfl, q⟩ := hu
  cases r
  exact wpAny_truthy_bool ⟨.bl (!b), H', I', rfl, q⟩
end
end PB
namespace PB
open PySem PySem.Spec PyProof.Rows L2
theorem decl_of {id : String} {name : String} {g : Int → Int → Sem PySem.Fin} {nm : Str} {b : Builtin} (sl : Slot "int" nm id) (en : entryFor table id = some b) (hb : b = Builtin.Int.intBinary name g) (ar : ∀ a b : Value, argsOk id ⟨[a, b], []⟩) : Decl id := by
  intro prog w A E s i t a C dx ha
  refine wpAny_call_entry sl (typeIs_int s i t) en ?_ (ar _ _)
  rw [hb]
  show wpAny _ _ (do
    let some y ← asInt? (.ref a) | rule "int.binary.not-an-int"; ret .notImplemented
    g i y) _ _ s
  refine wpAny_bind ?_
  show wpAny _ _ (do
    match (← load a).data with
    | .prim (.int i _) => pure (some i)
    | _ => pure none) _ _ s
  refine wpAny_bind (wpAny_load ha ?_)
  refine wpAny_pure ?_
  exact wpAny_bind (wpAny_rule (wpAny_pure ⟨_, rfl, rfl, rfl⟩))
theorem decl_add : Decl "int.__add__" := decl_of PySem.F.slot_int_add PySem.F.entry_int_add rfl PySem.F.args_int_add_2
theorem decl_sub : Decl "int.__sub__" := decl_of PySem.F.slot_int_sub PySem.F.entry_int_sub rfl PySem.F.args_int_sub_2
theorem decl_mul : Decl "int.__mul__" := decl_of PySem.F.slot_int_mul PySem.F.entry_int_mul rfl PySem.F.args_int_mul_2
theorem tk_add : typeLookup (.type "int") (dunderR (Operator.info .Add).2) = pure (some (.builtin "int.__radd__")) := by kernel_rfl
theorem tk_sub : typeLookup (.type "int") (dunderR (Operator.info .Sub).2) = pure (some (.builtin "int.__rsub__")) := by kernel_rfl
theorem tk_mul : typeLookup (.type "int") (dunderR (Operator.info .Mult).2) = pure (some (.builtin "int.__rmul__")) := by kernel_rfl
theorem tk_fdiv : typeLookup (.type "int") (dunderR (Operator.info .FloorDiv).2) = pure (some (.builtin "int.__rfloordiv__")) := by kernel_rfl
theorem tk_mod : typeLookup (.type "int") (dunderR (Operator.info .Mod).2) = pure (some (.builtin "int.__rmod__")) := by kernel_rfl
/-! ## the head's facts: He's, and any others by a Bool of the written part -/
def obsP (n : Nat) (fa : List He.Fa) (fn : List He.DefD) (bs : List (PySem.W.Frag → Bool)) (g : Addr → Option Obj) : Bool × He.AlD := (bs.all fun b => b (He.frG g (He.asD g n)), He.obsDG n fa fn g)
def SaysP (fa : List He.Fa) (fn : List He.DefD) (bs : List (PySem.W.Frag → Bool)) (K : PySem.W.Frag) : Prop := He.SaysD fa fn K ∧ (bs.all fun b => b K) = true
def hookP (n : Nat) (fa : List He.Fa) (fn : List He.DefD) (bs : List (PySem.W.Frag → Bool)) : PySem.W.Hook where
  α := Bool × He.AlD
  obs := fun s => obsP n fa fn bs s.heap.get?
  val := fun _ => (true, He.valD fn)
  says := fun _ h => ∃ K : PySem.W.Frag, K.In h ∧ SaysP fa fn bs K
  of := fun _ _ e => ⟨_, He.frG_in, (congrArg Prod.snd e), (congrArg Prod.fst e)⟩
  keeps := fun _ _ _ ⟨K, hK, c⟩ k => ⟨K, PySem.W.Frag.In.keeps hK k, c⟩
theorem obsP_eq {n : Nat} {fa : List He.Fa} {fn : List He.DefD} {bs : List (PySem.W.Frag → Bool)} {g : Addr → Option Obj} {s : Shared} (h : ∀ a, g a = s.heap.get? a) : obsP n fa fn bs g = (hookP n fa fn bs).obs s := by
  have e : g = s.heap.get? := funext h
  rw [e] <;> rfl
theorem SaysP.bool {fa : List He.Fa} {fn : List He.DefD} {bs : List (PySem.W.Frag → Bool)} {K : PySem.W.Frag} (c : SaysP fa fn bs K) (i : Nat) {b : PySem.W.Frag → Bool} (h : bs[i]? = some b := by rfl) : b K = true :=
  List.all_eq_true.mp c.2 b (List.mem_of_getElem? h)
end PB
namespace PB
open PySem PySem.Spec PyProof.Rows L2
/-! ## isinstance -/
/-- what isinstance asks of an own class, and its answers for builtin types -/
structure IsiC (K : PySem.W.Frag) (C : Addr) : Prop where
  ic : C8.InsC K C
  no : ∀ n ∈ ["int", "bool", "str", "list", "tuple", "NoneType"], PySem.W.kitOne K (.type n) (.ref C) = some false
  on : ∀ n ∈ ["int", "bool", "str", "list", "tuple"], PySem.W.kitOne K (.ref C) (.type n) = some false
def isiB (x : Str) (K : PySem.W.Frag) : Bool :=
  (Fa_cls x K && (He.eqO (PySem.W.findIn K (.ref (He.ga K x)) "__class__") (some (some (.builtin "object.__class__"))) && (He.eqO (PySem.W.specialIn K (.builtin "object.__class__") "__get__") (some (some (.builtin "getset_descriptor.__get__"))) &&
    (decide (PySem.W.takesIn K (.builtin "object.__class__") = some true) && (decide (PySem.W.mroIn K (He.ga K x) (.type "object") = some true) && decide (PySem.W.kitOne K (.ref (He.ga K x)) (.ref (He.ga K x)) = some true)))))) &&
  (["int", "bool", "str", "list", "tuple", "NoneType"].all fun n => decide (PySem.W.kitOne K (.type n) (.ref (He.ga K x)) = some false)) && (["int", "bool", "str", "list", "tuple"].all fun n => decide (PySem.W.kitOne K (.ref (He.ga K x)) (.type n) = some false))
where Fa_cls (x : Str) (K : PySem.W.Frag) : Bool := (He.Fa.cls x).ok K
theorem isi_of {x : Str} {K : PySem.W.Frag} (h : isiB x K = true) : IsiC K (He.ga K x) := by
  obtain ⟨h, h3⟩ := He.ba h
  obtain ⟨h1, h2⟩ := He.ba h
  obtain ⟨a, h1⟩ := He.ba h1
  obtain ⟨b, h1⟩ := He.ba h1
  obtain ⟨c, h1⟩ := He.ba h1
  obtain ⟨d, h1⟩ := He.ba h1
  obtain ⟨e, f⟩ := He.ba h1
  exact ⟨⟨He.cls_ok a, He.eqO_ok b, He.eqO_ok c, of_decide_eq_true d, of_decide_eq_true e, of_decide_eq_true f⟩, fun n hn => of_decide_eq_true (List.all_eq_true.mp h2 n hn), fun n hn => of_decide_eq_true (List.all_eq_true.mp h3 n hn)⟩
section
variable {K : PySem.W.Frag} {H : Hp} {Q : VK} {σ : L2.St} {a b C dx dy : Addr} {fs gs : List (Str × V)} {n : String} {k : Bool} {sp : Sp} {W : WX} {x y : V} {i j : Int}
theorem i_isi {t u : Value} {c : V} (ht : TyX K H x t) (hc : ClsV c u) (hk : PySem.W.kitOne K t u = some k) (h : Q (.bl k) H) : rIsi K [x, c] H Q := ⟨x, c, t, u, k, rfl, hc, ht, hk, h⟩
theorem i_isi_intT (h : Q (.bl true) H) (hk : kitB "int" n = some true := by decide +kernel) : rIsi K [.int i, .ty n] H Q := i_isi (.base (.int i)) (.ty n) (kit_ty hk) h
theorem i_isi_intF (h : Q (.bl false) H) (hk : kitB "int" n = some false := by decide +kernel) : rIsi K [.int i, .ty n] H Q := i_isi (.base (.int i)) (.ty n) (kit_ty hk) h
theorem i_isi_blT {z : Bool} (h : Q (.bl true) H) (hk : kitB "bool" n = some true := by decide +kernel) : rIsi K [.bl z, .ty n] H Q := i_isi (.base (.bl z)) (.ty n) (kit_ty hk) h
theorem i_isi_blF {z : Bool} (h : Q (.bl false) H) (hk : kitB "bool" n = some false := by decide +kernel) : rIsi K [.bl z, .ty n] H Q := i_isi (.base (.bl z)) (.ty n) (kit_ty hk) h
theorem i_isi_strT {z : Str} (h : Q (.bl true) H) (hk : kitB "str" n = some true := by decide +kernel) : rIsi K [.str z, .ty n] H Q := i_isi (.base (.str z)) (.ty n) (kit_ty hk) h
theorem i_isi_strF {z : Str} (h : Q (.bl false) H) (hk : kitB "str" n = some false := by decide +kernel) : rIsi K [.str z, .ty n] H Q := i_isi (.base (.str z)) (.ty n) (kit_ty hk) h
theorem i_isi_nonT (h : Q (.bl true) H) (hk : kitB "NoneType" n = some true := by decide +kernel) : rIsi K [.non, .ty n] H Q := i_isi (.base .non) (.ty n) (kit_ty hk) h
theorem i_isi_nonF (h : Q (.bl false) H) (hk : kitB "NoneType" n = some false := by decide +kernel) : rIsi K [.non, .ty n] H Q := i_isi (.base .non) (.ty n) (kit_ty hk) h
theorem i_isi_lstT {xs : List V} (ha : H a = some (.lst xs)) (h : Q (.bl true) H) (hk : kitB "list" n = some true := by decide +kernel) : rIsi K [.ref a, .ty n] H Q := i_isi (.base (.lst ha)) (.ty n) (kit_ty hk) h
theorem i_isi_lstF {xs : List V} (ha : H a = some (.lst xs)) (h : Q (.bl false) H) (hk : kitB "list" n = some false := by decide +kernel) : rIsi K [.ref a, .ty n] H Q := i_isi (.base (.lst ha)) (.ty n) (kit_ty hk) h
theorem i_isi_tupT {xs : List V} (ha : H a = some (.tup xs)) (h : Q (.bl true) H) (hk : kitB "tuple" n = some true := by decide +kernel) : rIsi K [.ref a, .ty n] H Q := i_isi (.base (.tup ha)) (.ty n) (kit_ty hk) h
theorem i_isi_tupF {xs : List V} (ha : H a = some (.tup xs)) (h : Q (.bl false) H) (hk : kitB "tuple" n = some false := by decide +kernel) : rIsi K [.ref a, .ty n] H Q := i_isi (.base (.tup ha)) (.ty n) (kit_ty hk) h
theorem i_isi_own (c : IsiC K C) (ha : H a = some (.ins C dx fs)) (h : Q (.bl true) H) : rIsi K [.ref a, .ref C] H Q := i_isi (.base (.ins ha c.ic.cl c.ic.ha c.ic.hn c.ic.htk c.ic.hm)) (.own C) c.ic.me h
theorem i_isi_ownTy (c : IsiC K C) (ha : H a = some (.ins C dx fs)) (h : Q (.bl false) H) (hn : n ∈ ["int", "bool", "str", "list", "tuple"] := by decide) : rIsi K [.ref a, .ty n] H Q := i_isi (.base (.ins ha c.ic.cl c.ic.ha c.ic.hn c.ic.htk c.ic.hm)) (.ty n) (c.on n hn) h
theorem i_isi_intOwn (c : IsiC K C) (h : Q (.bl false) H) : rIsi K [.int i, .ref C] H Q := i_isi (.base (.int i)) (.own C) (c.no "int" (by decide)) h
/-! own operators -/
theorem i_own (ha : H a = some (.ins C dx fs)) (hb : H b = some (.ins C dy gs)) (h : sp [.ref a, .ref b] H Q (WE W σ)) : rOwn C sp W σ (.ref a) (.ref b) H Q := ⟨a, dx, fs, rfl, ha, .inl ⟨b, dy, gs, rfl, hb⟩, h⟩
theorem i_ownI (ha : H a = some (.ins C dx fs)) (h : sp [.ref a, .int j] H Q (WE W σ)) : rOwn C sp W σ (.ref a) (.int j) H Q := ⟨a, dx, fs, rfl, ha, .inr ⟨j, rfl⟩, h⟩
theorem i_rown (hb : H b = some (.ins C dx fs)) (h : sp [.ref b, .int i] H Q (WE W σ)) : rROwn C sp W σ (.int i) (.ref b) H Q := ⟨i, b, dx, fs, rfl, rfl, hb, h⟩
theorem i_own1 (ha : H a = some (.ins C dx fs)) (h : sp [.ref a] H Q (WE W σ)) : rOwn1 C sp W σ (.ref a) H Q := ⟨a, dx, fs, rfl, ha, h⟩
/-- C(..): the maker's start -/
theorem i_newI {vs : List V} {E : XK} (h : ∀ x dx H', H x = none → Keep [] H H' → H' x = some (.ins C dx []) → sp (.ref x :: vs) H' (fun v H2 => v = .non ∧ Q (.ref x) H2) E) : NewI C sp vs E H Q := by
  intro x dx hx hdx hne
  refine h x dx _ hx ?_ upd_same
  have k1 : Keep [] H (upd H dx (.own x)) := Keep.new hdx
  refine k1.trans (Keep.new ?_)
  rw [upd_ne (Ne.symm hne)]
  exact hx
end
end PB
namespace PB
open PySem PySem.Spec PyProof.Rows L2
/-! ## keywords -/
/-- f(e, .., k = v, ..) where every parameter is given, of a def with defaults -/
theorem kbD {K : PySem.W.Frag} {x qual : Str} {params : Arguments} {body : List Stmt} {scope : Scope} {dvs : List V} {kws : List (Str × V)} {f : Addr} {fd : FuncData} {ps : List Str} (F : FunD K x qual params body scope dvs kws f fd) (n : Nat) (ks : List Str) (g : {α : Type} → List α → List α → List α) (hd : dvs ≠ [])
    (hrel : ∀ {vs zs : List V} {us ws : List Value}, Vals vs us → Vals zs ws → Vals (g vs zs) (g us ws))
    (h : ∀ (T : Addr) (kV doc pm : Value) (an : Option Addr) (cdv ct : Value) (us its ws : List Value), us.length = n → its.length = dvs.length → ws.length = ks.length →
      ∃ k, bindArgs (PySem.W.fnOf x qual params body scope (.ref T) kV doc pm an cdv ct) ⟨us, ks.zip ws⟩ = seqItems? (.ref T) >>= k ∧ k (some its.toArray) = pure (ps.zip (g us ws))) : KBn K fd ps n ks (fun us ws => g us ws) (fun vs zs => g vs zs) := by
  obtain ⟨oc, od, dV, kV, doc, pm, an, cdv, ct, osl, rfl, lk, hcd, hD, hK⟩ := F.ex
  rcases hD with ⟨e, _⟩ | ⟨_, T, o, its, m, rfl, lT, oT, rT⟩
  · exact absurd e hd
  · refine ⟨fun s us ws X l1 l2 => ?_, fun r1 r2 => hrel r1 r2⟩
    obtain ⟨k, e1, e2⟩ := h T kV doc pm an cdv ct us its ws l1 rT.length.symm l2
    refine BindsTo.of_looks fun M => ?_
    rw [e1]
    exact looks_items X lT oT (.of_pure e2)
/-- the same of a def without defaults -/
theorem kbN {K : PySem.W.Frag} {x qual : Str} {params : Arguments} {body : List Stmt} {scope : Scope} {kws : List (Str × V)} {f : Addr} {fd : FuncData} {ps : List Str} (F : FunD K x qual params body scope [] kws f fd) (n : Nat) (ks : List Str) (g : {α : Type} → List α → List α → List α)
    (hrel : ∀ {vs zs : List V} {us ws : List Value}, Vals vs us → Vals zs ws → Vals (g vs zs) (g us ws))
    (h : ∀ (kV doc pm : Value) (an : Option Addr) (cdv ct : Value) (us ws : List Value), us.length = n → ws.length = ks.length →
      bindArgs (PySem.W.fnOf x qual params body scope .none kV doc pm an cdv ct) ⟨us, ks.zip ws⟩ = pure (ps.zip (g us ws))) : KBn K fd ps n ks (fun us ws => g us ws) (fun vs zs => g vs zs) := by
  obtain ⟨oc, od, dV, kV, doc, pm, an, cdv, ct, osl, rfl, lk, hcd, hD, hK⟩ := F.ex
  rcases hD with ⟨_, rfl⟩ | ⟨e, _⟩
  · exact ⟨fun s us ws X l1 l2 => .of_eq (h kV doc pm an cdv ct us ws l1 l2), fun r1 r2 => hrel r1 r2⟩
  · exact absurd rfl e
theorem i_makeK0 {σ : L2.St} {H : Hp} {Q : VK} {C : Addr} {m : Nat} {sp : Sp} {E : XK} {tk : TA} (h : tk σ H fun zs H2 => zs.length = m ∧ NewI C sp zs E H2 Q) : tMakeK C 0 m sp (fun vs zs => vs ++ zs) E tNil tk σ H Q := by
  have e : (fun zs H2 => zs.length = m ∧ NewI C sp zs E H2 Q) = fun (zs : List V) (H2 : Hp) => ([] : List V).length = 0 ∧ zs.length = m ∧ NewI C sp zs E H2 Q := by
    funext zs H2
    simp
  rw [e] at h
  exact h
/-! ## walks by names -/
def LcJ (J : It) (g : TG) (tt : TT) (te : TE) (vs : List Nat) (σ : L2.St) (Q : VK) (H1 : Hp) : Prop := ∀ D, H1 D = none → ∃ W : Nat → Nat → Hp → Prop, (∃ m, W 0 m (upd H1 D (.lst []))) ∧ ∀ i m H, W i m H →
  (J.stop i H ∧ Q (.ref D) H) ∨ (J.go i H ∧ ∃ Nx : Hp → Prop, (∀ H', Nx H' → ∃ m', m' < m ∧ W (i + 1) m' H') ∧ ∀ x H', J.yld i H x H' → g x (wipe σ vs) H' fun σ2 H2 => wipe σ2 vs = wipe σ vs ∧ tt σ2 H2 fun b H3 =>
    if b = true then te σ2 H3 fun y H4 => ∃ acc, H4 D = some (.lst acc) ∧ acc.length < sizeLine ∧ Nx (upd H4 D (.lst (acc ++ [y]))) else Nx H3)
def ForJ (J : It) (g : TG) (tb : TS) (D : Ends) (σ : L2.St) (H1 : Hp) : Prop := ∃ W : Nat → Nat → L2.St → Hp → Prop, (∃ m, W 0 m σ H1) ∧ ∀ i m σ H, W i m σ H →
  (J.stop i H ∧ D.nx σ H) ∨ (J.go i H ∧ ∃ N : L2.St → Hp → Prop, (∀ σ' H', N σ' H' → ∃ m', m' < m ∧ W (i + 1) m' σ' H') ∧ ∀ x H', J.yld i H x H' → g x σ H' fun σ2 H2 => tb { D with nx := N, ct := N, bk := D.nx } σ2 H2)
def ItL (K : PySem.W.Frag) (R : It → Hp → Prop) (x : V) (H : Hp) : Prop := ∃ a, x = .ref a ∧ (∃ xs, SqL K H a xs) ∧ R (Itl K a) H
def ItT (K : PySem.W.Frag) (R : It → Hp → Prop) (x : V) (H : Hp) : Prop := ∃ a, x = .ref a ∧ (∃ xs, SqT K H a xs) ∧ R (Itt K a) H
def ItR1 (R : It → Hp → Prop) (vs : List V) (H : Hp) : Prop := ∃ j : Int, vs = [.int j] ∧ -(2 ^ 62) ≤ j ∧ j < 2 ^ 62 ∧ R (Itr 0 j.toNat) H
def ItR2 (R : It → Hp → Prop) (vs : List V) (H : Hp) : Prop := ∃ i j : Int, vs = [.int i, .int j] ∧ (-(2 ^ 62) ≤ i ∧ i < 2 ^ 62 ∧ -(2 ^ 62) ≤ j ∧ j < 2 ^ 62) ∧ R (Itr i (j - i).toNat) H
/-- the end of a comprehension's turn -/
def LcPut (D : Addr) (Nx : Hp → Prop) (y : V) (H : Hp) : Prop := ∃ acc, H D = some (.lst acc) ∧ acc.length < sizeLine ∧ Nx (upd H D (.lst (acc ++ [y])))
section
variable {σ : L2.St} {H : Hp} {Q : VK} {K : PySem.W.Frag} {a : Addr} {xs : List V} {g : TG} {tt : TT} {te : TE} {vs : List Nat} {ta : TE} {tA : TA} {D : Ends} {tb : TS} {wi : TI} {R : It → Hp → Prop}
theorem i_lc (h : wi σ H fun J H1 => LcJ J g tt te vs σ Q H1) : tLc wi g tt te vs σ H Q := h
theorem i_for (h : wi σ H fun J H1 => ForJ J g tb D σ H1) : tFor wi g tb D σ H := h
theorem i_iList (h : ta σ H fun x H1 => ItL K R x H1) : iList K ta σ H R := h
theorem i_iTup (h : ta σ H fun x H1 => ItT K R x H1) : iTup K ta σ H R := h
theorem i_iRng1 (h : tA σ H fun x H1 => ItR1 R x H1) : iRng1 tA σ H R := h
theorem i_iRng2 (h : tA σ H fun x H1 => ItR2 R x H1) : iRng2 tA σ H R := h
theorem i_itL (hs : SqL K H a xs) (h : R (Itl K a) H) : ItL K R (.ref a) H := ⟨a, rfl, ⟨xs, hs⟩, h⟩
theorem i_itT (hs : SqT K H a xs) (h : R (Itt K a) H) : ItT K R (.ref a) H := ⟨a, rfl, ⟨xs, hs⟩, h⟩
theorem i_itR1 {n : Int} (h0 : -4611686018427387904 ≤ n) (h1 : n < 4611686018427387904) (h : R (Itr 0 n.toNat) H) : ItR1 R [.int n] H := ⟨n, rfl, by omega, by omega, h⟩
theorem i_itR2 {m n : Int} (h0 : -4611686018427387904 ≤ m ∧ m < 4611686018427387904 ∧ -4611686018427387904 ≤ n ∧ n < 4611686018427387904) (h : R (Itr m (n - m).toNat) H) : ItR2 R [.int m, .int n] H := ⟨m, n, rfl, by omega, h⟩
theorem i_yes {G : Bool → Hp → Prop} (h : G true H) : tYes σ H G := h
/-- [e for x in xs] -/
theorem r_lcL (hs : SqL K H a xs) (h : ∀ Dl H1, H Dl = none → Keep [] H H1 → H1 Dl = some (.lst []) → ∃ Pv : Nat → Hp → Prop, Pv 0 H1 ∧ (∀ i H2, i ≤ xs.length → Pv i H2 → SqL K H2 a xs) ∧
    (∀ i x H2, xs[i]? = some x → Pv i H2 → g x (wipe σ vs) H2 fun σ2 H3 => wipe σ2 vs = wipe σ vs ∧ tt σ2 H3 fun b H4 => if b = true then te σ2 H4 fun y H5 => LcPut Dl (Pv (i + 1)) y H5 else Pv (i + 1) H4) ∧
    ∀ H2, Pv xs.length H2 → Q (.ref Dl) H2) : LcJ (Itl K a) g tt te vs σ Q H := by
  intro Dl hD
  obtain ⟨Pv, p0, pl, ps, pd⟩ := h Dl _ hD (Keep.new hD) upd_same
  exact lc_list Pv p0 pl ps pd
theorem r_lcR {lo : Int} {n : Nat} (h : ∀ Dl H1, H Dl = none → Keep [] H H1 → H1 Dl = some (.lst []) → ∃ Pv : Nat → Hp → Prop, Pv 0 H1 ∧
    (∀ i H2, i < n → Pv i H2 → g (.int (lo + i)) (wipe σ vs) H2 fun σ2 H3 => wipe σ2 vs = wipe σ vs ∧ tt σ2 H3 fun b H4 => if b = true then te σ2 H4 fun y H5 => LcPut Dl (Pv (i + 1)) y H5 else Pv (i + 1) H4) ∧
    ∀ H2, Pv n H2 → Q (.ref Dl) H2) : LcJ (Itr lo n) g tt te vs σ Q H := by
  intro Dl hD
  obtain ⟨Pv, p0, ps, pd⟩ := h Dl _ hD (Keep.new hD) upd_same
  exact lc_range Pv p0 ps pd
theorem r_lcT (hs : SqT K H a xs) (h : ∀ Dl H1, H Dl = none → Keep [] H H1 → H1 Dl = some (.lst []) → ∃ Pv : Nat → Hp → Prop, Pv 0 H1 ∧ (∀ i H2, i ≤ xs.length → Pv i H2 → SqT K H2 a xs) ∧
    (∀ i x H2, xs[i]? = some x → Pv i H2 → g x (wipe σ vs) H2 fun σ2 H3 => wipe σ2 vs = wipe σ vs ∧ tt σ2 H3 fun b H4 => if b = true then te σ2 H4 fun y H5 => LcPut Dl (Pv (i + 1)) y H5 else Pv (i + 1) H4) ∧
    ∀ H2, Pv xs.length H2 → Q (.ref Dl) H2) : LcJ (Itt K a) g tt te vs σ Q H := by
  intro Dl hD
  obtain ⟨Pv, p0, pl, ps, pd⟩ := h Dl _ hD (Keep.new hD) upd_same
  exact lc_tup Pv p0 pl ps pd
theorem i_put {Dl : Addr} {Nx : Hp → Prop} {y : V} {acc : List V} (ho : H Dl = some (.lst acc)) (hz : acc.length < sizeLine) (h : ∀ H', Keep [Dl] H H' → H' Dl = some (.lst (acc ++ [y])) → Nx H') : LcPut Dl Nx y H :=
  ⟨acc, ho, hz, h _ (Keep.set' (by simp) ho (fun z => z)) upd_same⟩
/-- for x in xs -/
theorem r_forL (hs : SqL K H a xs) (Pv : Nat → L2.St → Hp → Prop) (h0 : Pv 0 σ H) (hl : ∀ i σ' H', i ≤ xs.length → Pv i σ' H' → SqL K H' a xs)
    (ht : ∀ i x σ' H', xs[i]? = some x → Pv i σ' H' → g x σ' H' fun σ2 H2 => tb { D with nx := Pv (i + 1), ct := Pv (i + 1), bk := D.nx } σ2 H2) (hd : ∀ σ' H', Pv xs.length σ' H' → D.nx σ' H') : ForJ (Itl K a) g tb D σ H := for_list Pv h0 hl ht hd
theorem r_forT (hs : SqT K H a xs) (Pv : Nat → L2.St → Hp → Prop) (h0 : Pv 0 σ H) (hl : ∀ i σ' H', i ≤ xs.length → Pv i σ' H' → SqT K H' a xs)
    (ht : ∀ i x σ' H', xs[i]? = some x → Pv i σ' H' → g x σ' H' fun σ2 H2 => tb { D with nx := Pv (i + 1), ct := Pv (i + 1), bk := D.nx } σ2 H2) (hd : ∀ σ' H', Pv xs.length σ' H' → D.nx σ' H') : ForJ (Itt K a) g tb D σ H := for_tup Pv h0 hl ht hd
theorem r_forR {lo : Int} {n : Nat} (Pv : Nat → L2.St → Hp → Prop) (h0 : Pv 0 σ H)
    (ht : ∀ i σ' H', i < n → Pv i σ' H' → g (.int (lo + i)) σ' H' fun σ2 H2 => tb { D with nx := Pv (i + 1), ct := Pv (i + 1), bk := D.nx } σ2 H2) (hd : ∀ σ' H', Pv n σ' H' → D.nx σ' H') : ForJ (Itr lo n) g tb D σ H := for_range Pv h0 ht hd
theorem i_all {bs : List Bool} (hs : SqL K H a (bs.map V.bl)) (h : Q (.bl (bs.all id)) H) : rAll K [.ref a] H Q := ⟨a, bs, rfl, hs, h⟩
theorem i_len {n : Nat} {x : V} {G : V → Nat → Prop} (hl : LenV K x H n) (h : Q (.int n) H) : ∃ x' n', [x] = [x'] ∧ LenV K x' H n' ∧ Q (.int (n' : Nat)) H := ⟨x, n, rfl, hl, h⟩
end
end PB
local macro_rules | `(tactic| walk_at "pb1") => `(tactic| with_reducible (first | apply PB.i_lc | apply PB.i_for | apply PB.i_iList | apply PB.i_iTup | apply PB.i_iRng1 | apply PB.i_iRng2 | apply PB.i_yes | apply PB.i_makeK0))
namespace PB
open PySem PySem.Spec PyProof.Rows L2
/-! ## unions with slots -/
theorem opS_of {X : Cx} {f : Value → Value → Sem Value} {r : R2} (h : OpR X f r) : OpRS X f (fun _ => r) := fun pins s σ H x y v u Q I rx ry q => h pins s σ H x y v u Q I rx ry q
theorem opS_or {X : Cx} {f : Value → Value → Sem Value} {r r' : L2.St → R2} (h : OpRS X f r) (h' : OpRS X f r') : OpRS X f (fun σ x y H Q => r σ x y H Q ∨ r' σ x y H Q) :=
  fun pins s σ H x y v u Q I rx ry q => q.elim (fun q => h pins s σ H x y v u Q I rx ry q) fun q => h' pins s σ H x y v u Q I rx ry q
/-! ## sizes -/
theorem sz_mul {i j : Int} {a b n : Nat} (h : i.natAbs < 2 ^ a) (g : j.natAbs < 2 ^ b) (hn : a + b ≤ n) : (i * j).natAbs < 2 ^ n := Nat.lt_of_lt_of_le (wide_lt h g) (Nat.pow_le_pow_right (by decide) hn)
theorem sz_mono {i : Int} {a n : Nat} (h : i.natAbs < 2 ^ a) (hn : a ≤ n) : i.natAbs < 2 ^ n := Nat.lt_of_lt_of_le h (Nat.pow_le_pow_right (by decide) hn)
theorem sz_add {i j : Int} {a b n : Nat} (h : i.natAbs < 2 ^ a) (g : j.natAbs < 2 ^ b) (ha : a < n) (hb : b < n) : (i + j).natAbs < 2 ^ n := by
  have h1 := sz_mono (n := n - 1) h (by omega)
  have h2 := sz_mono (n := n - 1) g (by omega)
  have e : 2 ^ n = 2 ^ (n - 1) * 2 := by rw [← Nat.pow_succ]; congr 1; omega
  rw [e]
  omega
theorem sz_sub {i j : Int} {a b n : Nat} (h : i.natAbs < 2 ^ a) (g : j.natAbs < 2 ^ b) (ha : a < n) (hb : b < n) : (i - j).natAbs < 2 ^ n := by
  have e : i - j = i + -j := by omega
  rw [e]
  exact sz_add h (by rw [Int.natAbs_neg]; exact g) ha hb
theorem sz_fdiv (i j : Int) : (i.fdiv j).natAbs ≤ i.natAbs := by
  rcases Int.le_total 0 j with h | h
  · rw [Int.fdiv_eq_ediv_of_nonneg _ h]
    exact Int.natAbs_ediv_le_natAbs ..
  · rw [← Int.neg_fdiv_neg, Int.fdiv_eq_ediv_of_nonneg _ (show 0 ≤ -j by omega)]
    have := Int.natAbs_ediv_le_natAbs (-i) (-j)
    rw [Int.natAbs_neg i] at this
    exact this
theorem fdiv_scale (p q c : Int) (hc : c ≠ 0) : (p * c).fdiv (q * c) = p.fdiv q := by
  rcases Int.lt_or_gt_of_ne hc with h | h
  · rw [← Int.neg_fdiv_neg, ← Int.mul_neg, ← Int.mul_neg, Int.mul_comm p, Int.mul_comm q]
    exact Int.mul_fdiv_mul_of_pos _ _ (by omega)
  · rw [Int.mul_comm p, Int.mul_comm q]
    exact Int.mul_fdiv_mul_of_pos _ _ h
/-- the same fraction, the same floor -/
theorem fdiv_cross {p q p' q' : Int} (hq : q ≠ 0) (hq' : q' ≠ 0) (e : p * q' = p' * q) : p.fdiv q = p'.fdiv q' := by
  rw [← fdiv_scale p q q' hq', e, ← fdiv_scale p' q' q hq, Int.mul_comm q q']
end PB
namespace PB
open PySem PySem.Spec PyProof.Rows L2
/-! ## isinstance of several built-in types -/
def kitsB (a : String) : List String → Option Bool
  | [] => some false
  | b :: bs => match kitB a b with
    | some true => some true
    | some false => kitsB a bs
    | none => none
theorem kits_ty {K : PySem.W.Frag} {a : String} {r : Bool} : ∀ {bs : List String}, kitsB a bs = some r → PySem.W.kitAny K (.type a) (bs.map Value.type) = some r
  | [], h => h
  | b :: bs, h => by
    unfold kitsB at h
    cases e : kitB a b with
    | none => rw [e] at h; cases h
    | some k =>
      rw [e] at h
      cases k with
      | true =>
        cases h
        exact kitAny_cons (kit_ty e) (fun z => nomatch z) fun _ => rfl
      | false => exact kitAny_cons (kit_ty e) (fun _ => kits_ty h) fun z => nomatch z
theorem cls_tys : ∀ bs : List String, Paired ClsV (bs.map V.ty) (bs.map Value.type)
  | [] => .nil
  | b :: bs => .cons (.ty b) (cls_tys bs)
section
variable {K : PySem.W.Frag} {H : Hp} {Q : VK} {σ : L2.St} {x : V} {n : String} {k : Bool} {tp : Addr}
theorem i_isiT (bs : List String) (hT : H tp = some (.tup (bs.map V.ty))) (ht : TyOf K H x (.type n)) (hk : kitsB n bs = some k) (h : Q (.bl k) H) : rIsiT K [x, .ref tp] H Q :=
  ⟨x, tp, _, _, _, k, rfl, hT, cls_tys bs, .base ht, kits_ty hk, h⟩
theorem i_isiB {m : String} (ht : TyOf K H x (.type n)) (hk : kitB n m = some k) (h : Q (.bl k) H) : rIsi K [x, .ty m] H Q := i_isi (.base ht) (.ty m) (kit_ty hk) h
/-! ## zip in comprehensions -/
def ItZ (K : PySem.W.Frag) (R : It → Hp → Prop) (vs : List V) (H1 : Hp) : Prop := ∃ a b xs ys, vs = [.ref a, .ref b] ∧ ((SqL K H1 a xs ∧ SqL K H1 b ys ∧ R (Itz K a b) H1) ∨ (SqT K H1 a xs ∧ SqT K H1 b ys ∧ R (RZ.ItzT K a b) H1))
variable {a b : Addr} {xs ys : List V} {g : TG} {tt : TT} {te : TE} {vs : List Nat} {tA : TA} {R : It → Hp → Prop} {D : Ends} {tb : TS}
theorem i_iZipA (h : tA σ H fun vs H1 => ItZ K R vs H1) : RZ.iZipA K tA σ H R := h
theorem i_itZL (h1 : SqL K H a xs) (h2 : SqL K H b ys) (h : R (Itz K a b) H) : ItZ K R [.ref a, .ref b] H := ⟨a, b, xs, ys, rfl, .inl ⟨h1, h2, h⟩⟩
theorem i_itZT (h1 : SqT K H a xs) (h2 : SqT K H b ys) (h : R (RZ.ItzT K a b) H) : ItZ K R [.ref a, .ref b] H := ⟨a, b, xs, ys, rfl, .inr ⟨h1, h2, h⟩⟩
theorem r_lcZL (hl : xs.length = ys.length) (h : ∀ Dl H1, H Dl = none → Keep [] H H1 → H1 Dl = some (.lst []) → ∃ Pv : Nat → Hp → Prop, Pv 0 H1 ∧ (∀ i H2, Pv i H2 → SqL K H2 a xs ∧ SqL K H2 b ys) ∧
    (∀ i x y T H2 H3, xs[i]? = some x → ys[i]? = some y → Pv i H2 → H2 T = none → Keep [] H2 H3 → H3 T = some (.tup [x, y]) → g (.ref T) (wipe σ vs) H3 fun σ2 H3 => wipe σ2 vs = wipe σ vs ∧ tt σ2 H3 fun b H4 => if b = true then te σ2 H4 fun y H5 => LcPut Dl (Pv (i + 1)) y H5 else Pv (i + 1) H4) ∧
    ∀ H2, Pv xs.length H2 → Q (.ref Dl) H2) : LcJ (Itz K a b) g tt te vs σ Q H := by
  intro Dl hD
  obtain ⟨Pv, p0, pl, ps, pd⟩ := h Dl _ hD (Keep.new hD) upd_same
  refine ⟨fun i m H => m = xs.length - i ∧ i ≤ xs.length ∧ Pv i H, ⟨xs.length, rfl, Nat.zero_le _, p0⟩, ?_⟩
  rintro i m H ⟨rfl, hi, p⟩
  obtain ⟨qx, qy⟩ := pl i H p
  by_cases hlt : i < xs.length
  · have hx : xs[i]? = some xs[i] := List.getElem?_eq_getElem hlt
    have hlt2 : i < ys.length := by omega
    have hy : ys[i]? = some ys[i] := List.getElem?_eq_getElem hlt2
    refine .inr ⟨⟨xs, ys, _, _, qx, qy, hx, hy⟩, Pv (i + 1), fun H' p' => ⟨xs.length - (i + 1), by omega, rfl, hlt, p'⟩, fun v H' y => ?_⟩
    obtain ⟨T, x', y', rfl, hT, rfl, f1, f2⟩ := y
    exact ps i x' y' T H _ (f1 xs qx) (f2 ys qy) p hT (Keep.new hT) upd_same
  · have e : i = xs.length := by omega
    subst e
    exact .inl ⟨⟨xs, ys, qx, qy, Or.inl (Nat.le_refl _)⟩, pd H p⟩
theorem r_lcZT (hl : xs.length = ys.length) (h : ∀ Dl H1, H Dl = none → Keep [] H H1 → H1 Dl = some (.lst []) → ∃ Pv : Nat → Hp → Prop, Pv 0 H1 ∧ (∀ i H2, Pv i H2 → SqT K H2 a xs ∧ SqT K H2 b ys) ∧
    (∀ i x y T H2 H3, xs[i]? = some x → ys[i]? = some y → Pv i H2 → H2 T = none → Keep [] H2 H3 → H3 T = some (.tup [x, y]) → g (.ref T) (wipe σ vs) H3 fun σ2 H3 => wipe σ2 vs = wipe σ vs ∧ tt σ2 H3 fun b H4 => if b = true then te σ2 H4 fun y H5 => LcPut Dl (Pv (i + 1)) y H5 else Pv (i + 1) H4) ∧
    ∀ H2, Pv xs.length H2 → Q (.ref Dl) H2) : LcJ (RZ.ItzT K a b) g tt te vs σ Q H := by
  intro Dl hD
  obtain ⟨Pv, p0, pl, ps, pd⟩ := h Dl _ hD (Keep.new hD) upd_same
  refine ⟨fun i m H => m = xs.length - i ∧ i ≤ xs.length ∧ Pv i H, ⟨xs.length, rfl, Nat.zero_le _, p0⟩, ?_⟩
  rintro i m H ⟨rfl, hi, p⟩
  obtain ⟨qx, qy⟩ := pl i H p
  by_cases hlt : i < xs.length
  · have hx : xs[i]? = some xs[i] := List.getElem?_eq_getElem hlt
    have hlt2 : i < ys.length := by omega
    have hy : ys[i]? = some ys[i] := List.getElem?_eq_getElem hlt2
    refine .inr ⟨⟨xs, ys, _, _, qx, qy, hx, hy⟩, Pv (i + 1), fun H' p' => ⟨xs.length - (i + 1), by omega, rfl, hlt, p'⟩, fun v H' y => ?_⟩
    obtain ⟨T, x', y', rfl, hT, rfl, f1, f2⟩ := y
    exact ps i x' y' T H _ (f1 xs qx) (f2 ys qy) p hT (Keep.new hT) upd_same
  · have e : i = xs.length := by omega
    subst e
    exact .inl ⟨⟨xs, ys, qx, qy, Or.inl (Nat.le_refl _)⟩, pd H p⟩
end
section
variable {K : PySem.W.Frag} {H : Hp} {Q : VK} {a : Addr} {xs : List V}
theorem call_lenN {X : Cx} : CallR X (.builtin "len") (rLen X.K) := call_len
theorem i_lenL (hs : SqL K H a xs) (h : Q (.int xs.length) H) : rLen K [.ref a] H Q := ⟨_, _, rfl, .inl ⟨xs, hs, rfl⟩, h⟩
theorem i_lenT (hs : SqT K H a xs) (h : Q (.int xs.length) H) : rLen K [.ref a] H Q := ⟨_, _, rfl, .inr ⟨xs, hs, rfl⟩, h⟩
theorem i_isB {p q : Bool} (h : Q (.bl (decide (p = q))) H) : rIsB (.bl p) (.bl q) H Q := ⟨p, q, rfl, rfl, h⟩
end
theorem b_eqR {A B : Prop} {x : V} (h : A) : if decide (x = x) = true then A else B := by rw [if_pos (by simp)]; exact h
theorem b_neR {A B : Prop} {x : V} (h : B) : if (!decide (x = x)) = true then A else B := by rw [if_neg (by simp)]; exact h
theorem all_rep (n : Nat) : (List.replicate n true).all id = true := by
  rw [List.all_eq_true]
  intro x hx
  exact (List.mem_replicate.mp hx).2
/-! ## the same data -/
/-- x and y are the same data, at most n lists and tuples deep -/
inductive Sm (H : Hp) : Nat → V → V → Prop
  | int {n : Nat} (i : Int) : Sm H n (.int i) (.int i)
  | bl {n : Nat} (i : Bool) : Sm H n (.bl i) (.bl i)
  | str {n : Nat} (i : Str) : Sm H n (.str i) (.str i)
  | non {n : Nat} : Sm H n .non .non
  | lst {n : Nat} {a b : Addr} {xs ys : List V} (ha : H a = some (.lst xs)) (hb : H b = some (.lst ys)) (hz : xs.length ≤ 100000) (hl : xs.length = ys.length) (he : ∀ (i : Nat) (x y : V), xs[i]? = some x → ys[i]? = some y → Sm H n x y) : Sm H (n + 1) (.ref a) (.ref b)
  | tup {n : Nat} {a b : Addr} {xs ys : List V} (ha : H a = some (.tup xs)) (hb : H b = some (.tup ys)) (hz : xs.length ≤ 100000) (hl : xs.length = ys.length) (he : ∀ (i : Nat) (x y : V), xs[i]? = some x → ys[i]? = some y → Sm H n x y) : Sm H (n + 1) (.ref a) (.ref b)
theorem Sm.keep {H H' : Hp} (k : Keep [] H H') {n : Nat} {x y : V} (h : Sm H n x y) : Sm H' n x y := by
  induction h with
  | int i => exact .int i
  | bl i => exact .bl i
  | str i => exact .str i
  | non => exact .non
  | lst ha hb hz hl _ ih => exact .lst (k.at_ _ _ (by simp) ha) (k.at_ _ _ (by simp) hb) hz hl ih
  | tup ha hb hz hl _ ih => exact .tup (k.at_ _ _ (by simp) ha) (k.at_ _ _ (by simp) hb) hz hl ih
theorem Sm.mono {H : Hp} {n : Nat} {x y : V} (h : Sm H n x y) : ∀ {m : Nat}, n ≤ m → Sm H m x y := by
  induction h with
  | int i => exact fun _ => .int i
  | bl i => exact fun _ => .bl i
  | str i => exact fun _ => .str i
  | non => exact fun _ => .non
  | lst ha hb hz hl _ ih =>
    intro m hm
    obtain ⟨m, rfl⟩ : ∃ k, m = k + 1 := ⟨m - 1, by omega⟩
    exact .lst ha hb hz hl fun i x y h1 h2 => ih i x y h1 h2 (by omega)
  | tup ha hb hz hl _ ih =>
    intro m hm
    obtain ⟨m, rfl⟩ : ∃ k, m = k + 1 := ⟨m - 1, by omega⟩
    exact .tup ha hb hz hl fun i x y h1 h2 => ih i x y h1 h2 (by omega)
/-- a scalar is the same as itself -/
def isSc : V → Prop
  | .int _ => True
  | .bl _ => True
  | .str _ => True
  | .non => True
  | _ => False
theorem Sm.sc {H : Hp} {n : Nat} : ∀ {x : V}, isSc x → Sm H n x x
  | .int i, _ => .int i
  | .bl i, _ => .bl i
  | .str i, _ => .str i
  | .non, _ => .non
/-- two lists of the same scalars -/
theorem Sm.lstS {H : Hp} {n : Nat} {a b : Addr} {xs : List V} (ha : H a = some (.lst xs)) (hb : H b = some (.lst xs)) (hs : ∀ x ∈ xs, isSc x) (hz : xs.length ≤ 100000) : Sm H (n + 1) (.ref a) (.ref b) :=
  .lst ha hb hz rfl fun i x y h1 h2 => by
    rw [h1] at h2
    cases h2
    exact .sc (hs x (List.mem_of_getElem? h1))
theorem Sm.tupS {H : Hp} {n : Nat} {a b : Addr} {xs : List V} (ha : H a = some (.tup xs)) (hb : H b = some (.tup xs)) (hs : ∀ x ∈ xs, isSc x) (hz : xs.length ≤ 100000) : Sm H (n + 1) (.ref a) (.ref b) :=
  .tup ha hb hz rfl fun i x y h1 h2 => by
    rw [h1] at h2
    cases h2
    exact .sc (hs x (List.mem_of_getElem? h1))
def spSame (n : Nat) : Sp := fun vs H Q _ => ∃ x y, vs = [x, y] ∧ Sm H n x y ∧ ∀ H', Keep [] H H' → Q (.bl true) H'
def spSameN : Nat → Sp
  | 0 => fun _ _ _ _ => False
  | n + 1 => spSame n
end PB
local macro_rules | `(tactic| walk_at "pb1") => `(tactic| with_reducible (first | apply PB.i_iZipA | apply PB.b_eqR | apply PB.b_neR | apply PB.i_isB))
namespace PB
open PySem PySem.W PyProof.Rows Builtin
/-! ## != by an own __eq__, bool, str of own instances -/
section
variable {M : Model} {prog : Program} {w : World} {A : Around} {E : Value → Shared → Prop} {s : Shared} {K : Frag} {x C L f : Addr} {h₀ : Heap} {m : Str → Option Value} {ox : Obj} {od : Option Obj} {b tb : Value}
theorem ifBound_objNe {args : List Value} {Q : Option Value → Shared → Prop} (X : K.In s.heap) (I : InstAt s.heap x ox C od) (hs : findIn K (.ref C) "__ne__" = some (some (.builtin "object.__ne__")))
    (h : wpAny M A (call (.builtin "object.__ne__") (.ref x :: args)) (fun v => Q (some v)) E s) : wpAny M A (callSpecialIfBound? (.ref x) "__ne__" args) Q E s := by
  simp only [callSpecialIfBound?, bindSpecialIfBound?]
  refine wpAny_holding (wpAny_bind (wpAny_bind (wpAny_bind (I.type.here ((looks_findIn X hs).here ?_)))))
  refine wpAny_bind (wpAny_askSetting (wpAny_ite ?_))
  have fin : wpAny M A (call (.builtin "object.__ne__") ([.ref x] ++ args) >>= fun v => pure (some v)) Q E s := wpAny_bind (wpAny_mono h (fun v s' h' => wpAny_pure h') fun _ _ h' => h')
  split
  · exact wpAny_bind (wpAny_of_eq (PySem.F.cmp_object.ne.bind _) (wpAny_pure (by exact fin)))
  · exact wpAny_tryCatch (wpAny_bind (wpAny_of_eq (PySem.F.cmp_object.ne.bind _) (wpAny_pure (by exact fin))))
theorem objNe_K {Q : Fin → Shared → Prop} (hu : A.units < cLine) (X : K.In s.heap) (I : InstAt s.heap x ox C od) (hs : findIn K (.ref C) "__eq__" = some (some (.ref f))) (hf : isFn K (.ref f) = true)
    (h : wpAny (model prog w) A (call (.ref f) [.ref x, b]) (fun v s' => ∃ k, v = .bool k ∧ Q (.done (.ret (.bool (!k)))) s') E s) : wpAny (model prog w) A (Builtin.«object.__ne__» ⟨[.ref x, b], []⟩) Q E s := by
  unfold Builtin.«object.__ne__»
  refine wpAny_bind (wpAny_pure ?_)
  refine wpAny_bind (m := cRoomFor _ _) (wpAny_cRoomFor hu ?_)
  refine wpAny_bind (m := callSpecialIfBound? (.ref x) (Str.ofString "__eq__") [b]) (ifBound_K X I hs hf (wpAny_mono h (fun v s' hv => ?_) fun _ _ z => z))
  obtain ⟨k, rfl, q⟩ := hv
  exact wpAny_bind (m := truthy (.bool k)) (wpAny_truthy_bool (wpAny_pure q))
theorem ne_own {Q : Value → Shared → Prop} (hu : A.units + 1 < cLine) (F : Fr h₀ L s.heap m) (X₀ : K.In h₀) (I : InstAt s.heap x ox C od) (hb : Looks (model prog w) s.heap (typeOf b) tb) (hn : notFirst K C tb = true)
    (hm : mroIn K C (.type "object") = some true) (hne : findIn K (.ref C) "__ne__" = some (some (.builtin "object.__ne__"))) (hs : findIn K (.ref C) "__eq__" = some (some (.ref f))) (hf : isFn K (.ref f) = true)
    (h : wpAny (model prog w) A.in1 (call (.ref f) [.ref x, b]) (fun v s' => ∃ k, v = .bool k ∧ Q (.bool (!k)) s') E s) : wpAny (model prog w) A (compareOp .NotEq (.ref x) b) Q E s := by
  have X := X₀.keeps F.keep
  have one : wpAny (model prog w) A (tryCompare (.ref x) (cmpInfo .NotEq).2.1 b) (fun r s' => ∃ v, r = some v ∧ Q v s') E s := by
    unfold tryCompare
    refine wpAny_bind (ifBound_objNe X I hne ?_)
    refine wpAny_call (codeAny_call_builtin PySem.F.cmp_object.ne.plain PySem.F.cmpEntry_ne (check_slot PySem.F.cmpKind_ne PySem.F.cmpSplit_ne (I.type.andThen (looks_mroIn X hm)) (PySem.F.cmpArgs_ne _ _) ?_))
    refine objNe_K (A := A.in1) hu X I hs hf (wpAny_mono h (fun v s' hv => ?_) fun _ _ z => z)
    obtain ⟨k, rfl, q⟩ := hv
    exact ⟨k, rfl, wpAny_pure ⟨_, rfl, q⟩⟩
  show wpAny _ _ (richCompare .NotEq (.ref x) b) _ _ _
  unfold richCompare
  simp only [oneThing_ref]
  refine wpAny_holding (wpAny_bind (wpAny_cRoomFor (by omega) ?_))
  refine wpAny_bind (I.type.here (wpAny_bind (hb.here ?_)))
  split
  · rename_i q
    have e : subIn K tb (.ref C) = some false := by
      rcases Bool.or_eq_true_iff.mp hn with e | e
      · rw [beq_iff_eq.mp e] at q; simp at q
      · exact beq_iff_eq.mp e
    refine wpAny_bind ((looks_subIn X e).here ?_)
    simp only [Bool.false_eq_true, if_false]
    refine wpAny_bind (wpAny_mono one (fun r s' z => ?_) fun _ _ e => e)
    obtain ⟨v, rfl, hq⟩ := z
    exact wpAny_pure hq
  · refine wpAny_bind (wpAny_pure ?_)
    simp only [Bool.false_eq_true, if_false]
    refine wpAny_bind (wpAny_mono one (fun r s' z => ?_) fun _ _ e => e)
    obtain ⟨v, rfl, hq⟩ := z
    exact wpAny_pure hq
theorem bool_own {Q : Value → Shared → Prop} (F : Fr h₀ L s.heap m) (X₀ : K.In h₀) (I : InstAt s.heap x ox C od) (hs : findIn K (.ref C) "__bool__" = some (some (.ref f))) (hf : isFn K (.ref f) = true)
    (h : wpAny (model prog w) A.in1.in1 (call (.ref f) [.ref x]) (fun v s' => ∃ k, v = .bool k ∧ Q (.bool k) s') E s) : wpAny (model prog w) A (call (.type "bool") [.ref x]) Q E s := by
  refine callType_codes (T := "bool") (Bi := Builtin.«object.__init__») (Q₁ := fun r s₁ => ∃ y, r = .bool y ∧ Q r s₁) PySem.F.called_bool (PySem.F.typeCall_bool_1 _) PySem.F.entry_object_init ?_ ?_
  · refine codeAny_of_tree ?_
    show wpAny _ A.in1.in1 (do checkBuiltinCall "bool.__new__" ⟨[.type "bool", .ref x], []⟩; again (.builtin "bool.__new__" ⟨[.type "bool", .ref x], []⟩)) _ _ s
    refine wpAny_bind (wpAny_of_eq (PySem.F.newCall_bool_1 _) (wpAny_pure ⟨plainId_quiet (by decide +kernel) _, codeAny_builtin PySem.F.entry_bool_new ?_⟩))
    rw [Around.under_plainId (by decide +kernel) _]
    have f1 := PySem.F.conv_sub_bool
    have tr : ∀ {R : Bool → Shared → Prop}, wpAny (model prog w) A.in1.in1 (call (.ref f) [.ref x]) (fun v s' => ∃ k, v = .bool k ∧ R k s') E s → wpAny (model prog w) A.in1.in1 (truthy (.ref x)) R E s := fun h => truthy_K F X₀ I hs hf (wpAny_mono h (fun v s' hv => by
      obtain ⟨k, rfl, q⟩ := hv
      exact q) fun _ _ z => z)
    unfold Builtin.«bool.__new__»
    repeat (any_goals (first | assumption | (with_reducible refine tr (wpAny_mono h (fun v s' hv => ?_) fun _ _ z => z); obtain ⟨k, rfl, q⟩ := hv; exact ⟨k, rfl, wpAny_pure ⟨k, rfl, q⟩⟩) | wp_step))
  · rintro obj s₁ ⟨y, rfl, hq⟩
    exact ⟨rfl, PySem.F.args_object_init_2 _ _, object_init_meets PySem.F.called_bool.init.lookup PySem.F.called_bool.made (by decide) prog w A.in1 _ s₁ ⟨rfl, rfl, hq⟩⟩
end
end PB
namespace PB
open PySem PySem.Spec PyProof.Rows L2
/-- no own __ne__ -/
structure NeD (K : PySem.W.Frag) (C : Addr) : Prop where
  ne : PySem.W.findIn K (.ref C) "__ne__" = some (some (.builtin "object.__ne__"))
  mro : PySem.W.mroIn K C (.type "object") = some true
def neB (x : Str) (K : PySem.W.Frag) : Bool := He.eqO (PySem.W.findIn K (.ref (He.ga K x)) "__ne__") (some (some (.builtin "object.__ne__"))) && decide (PySem.W.mroIn K (He.ga K x) (.type "object") = some true)
theorem ne_of_b {x : Str} {K : PySem.W.Frag} (h : neB x K = true) : NeD K (He.ga K x) := by
  obtain ⟨a, b⟩ := He.ba h
  exact ⟨He.eqO_ok a, of_decide_eq_true b⟩
section
variable {X : Cx} {CX : CXT} {k : Nat} {ps : List Str} {sp : Sp} {W : WX} {c : Str}
def rNeOwn (C : Addr) (sp : Sp) (W : WX) : L2.St → R2 := fun σ x y H Q => rOwn C sp W σ x y H fun v H' => ∃ b, v = .bl b ∧ Q (.bl (!b)) H'
theorem op_neOwn (O : OkM X.prog X.w X.K X.mg X.base CX k c "__eq__" ps [] sp) (N : OwnN X.K (He.ga X.K c)) (D : NeD X.K (He.ga X.K c)) (hr : Room (k + 1) X.A) (hx : ∀ σ, PassesAt CX X σ (WE W σ)) : OpRS X (compareOp .NotEq) (rNeOwn (He.ga X.K c) sp W) := by
  intro pins s σ H x y v u Q I rx ry h
  obtain ⟨a, dx, fs, rfl, ha, hy, hs⟩ := h
  cases rx
  obtain ⟨od, J⟩ := inst_of I ha
  obtain ⟨m, hF⟩ := I.fr
  have hu : X.A.units + 1 < cLine := by have := hr.un; omega
  rcases hy with ⟨b, dy, gs, rfl, hb⟩ | ⟨j, rfl⟩
  · cases ry
    obtain ⟨od', J'⟩ := inst_of I hb
    refine ne_own (tb := .ref (He.ga X.K c)) hu hF I.ok.mod.kin J J'.type (by simp [PySem.W.notFirst]) D.mro D.ne O.meth.at_ O.meth.fn ?_
    refine wpAny_mono (O.runA (A' := X.A.in1) rfl hr.in1 (hx σ) I (vs := [.ref a, .ref b]) (.cons rfl (.cons rfl .nil)) hs) (fun u s' hu => ?_) fun _ _ z => z
    obtain ⟨v, H', I', r, b, rfl, q⟩ := hu
    cases r
    exact ⟨b, rfl, .bl (!b), H', I', rfl, q⟩
  · obtain ⟨t, rfl⟩ := ry
    refine ne_own (tb := .type "int") hu hF I.ok.mod.kin J (PySem.W.Looks.of_pure rfl) (by simp [PySem.W.notFirst, N.si]) D.mro D.ne O.meth.at_ O.meth.fn ?_
    refine wpAny_mono (O.runA (A' := X.A.in1) rfl hr.in1 (hx σ) I (vs := [.ref a, .int j]) (.cons rfl (.cons ⟨t, rfl⟩ .nil)) hs) (fun u s' hu => ?_) fun _ _ z => z
    obtain ⟨v, H', I', r, b, rfl, q⟩ := hu
    cases r
    exact ⟨b, rfl, .bl (!b), H', I', rfl, q⟩
def rBoolOwn (C : Addr) (sp : Sp) (W : WX) : L2.St → List V → Hp → VK → Prop := fun σ xs H Q => ∃ x, xs = [x] ∧ rOwn1 C sp W σ x H fun v H' => ∃ b, v = .bl b ∧ Q (.bl b) H'
theorem call_boolOwn (O : OkM X.prog X.w X.K X.mg X.base CX k c "__bool__" ps [] sp) (hr : Room (k + 2) X.A) (hx : ∀ σ, PassesAt CX X σ (WE W σ)) : CallRS X (.type "bool") (rBoolOwn (He.ga X.K c) sp W) := by
  intro pins s σ H xs us Q I r h
  obtain ⟨x, rfl, a, dx, fs, rfl, ha, hs⟩ := h
  obtain ⟨u, rfl, rx⟩ := vals1 r
  cases rx
  obtain ⟨od, J⟩ := inst_of I ha
  obtain ⟨m, hF⟩ := I.fr
  refine bool_own hF I.ok.mod.kin J O.meth.at_ O.meth.fn (wpAny_mono (O.runA (A' := X.A.in1.in1) rfl (hr.in1 (k := k + 1)).in1 (hx σ) I (vs := [.ref a]) (.cons rfl .nil) hs) (fun u s' hu => ?_) fun _ _ z => z)
  obtain ⟨v, H', I', r, b, rfl, q⟩ := hu
  cases r
  exact ⟨b, rfl, .bl b, H', I', rfl, q⟩
def rStrOwn (C : Addr) (sp : Sp) (W : WX) : L2.St → List V → Hp → VK → Prop := fun σ xs H Q => ∃ x, xs = [x] ∧ rOwn1 C sp W σ x H fun v H' => ∃ b, v = .str b ∧ Q (.str b) H'
theorem call_strOwn (O : OkM X.prog X.w X.K X.mg X.base CX k c "__str__" ps [] sp) (hr : Room (k + 2) X.A) (hx : ∀ σ, PassesAt CX X σ (WE W σ)) : CallRS X (.type "str") (rStrOwn (He.ga X.K c) sp W) := by
  intro pins s σ H xs us Q I r h
  obtain ⟨x, rfl, a, dx, fs, rfl, ha, hs⟩ := h
  obtain ⟨u, rfl, rx⟩ := vals1 r
  cases rx
  obtain ⟨od, J⟩ := inst_of I ha
  obtain ⟨m, hF⟩ := I.fr
  have hu : X.A.in1.in1.units < cLine := by
    have := ((hr.in1 (k := k + 1)).in1).un
    omega
  refine PySem.W.kso_call hu I.kIn J O.meth.at_ O.meth.fn (wpAny_mono (O.runA (A' := X.A.in1.in1) rfl (hr.in1 (k := k + 1)).in1 (hx σ) I (vs := [.ref a]) (.cons rfl .nil) hs) (fun u s' hu => ?_) fun _ _ z => z)
  obtain ⟨v, H', I', r, b, rfl, q⟩ := hu
  obtain ⟨t, rfl⟩ := r
  exact ⟨.str b, H', I', ⟨t, rfl⟩, q⟩
theorem CallRSor {f : Value} {r r' : L2.St → List V → Hp → VK → Prop} (h : CallRS X f r) (h' : CallRS X f r') : CallRS X f (fun σ xs H Q => r σ xs H Q ∨ r' σ xs H Q) :=
  fun pins s σ H xs us Q I rx q => q.elim (fun q => h pins s σ H xs us Q I rx q) fun q => h' pins s σ H xs us Q I rx q
theorem callS_of {f : Value} {r : List V → Hp → VK → Prop} (h : CallR X f r) : CallRS X f (fun _ => r) := fun pins s σ H xs us Q I rx q => h pins s σ H xs us Q I rx q
end
end PB
namespace PB
open PySem PySem.Spec PyProof.Rows L2
/-! ## texts, dead ends -/
def rStrI : List V → Hp → VK → Prop := fun xs H Q => ∃ i, xs = [.int i] ∧ i.natAbs.log2 < 1920 ∧ Q (.str (toString i)) H
theorem call_strI {X : Cx} : CallR X (.type "str") rStrI := call_str_int
def rBoolI : List V → Hp → VK → Prop := fun xs H Q => (∃ i, xs = [.int i] ∧ Q (.bl (i != 0)) H) ∨ ∃ k, xs = [.bl k] ∧ Q (.bl k) H
theorem call_boolI {X : Cx} : CallR X (.type "bool") rBoolI := call_bool1
theorem op_addS {X : Cx} : OpR X (binaryOp .Add) rAddS := op_add_str
theorem pe_dead {X : Cx} {e : Expr} : PE X e (fun _ _ _ => False) := ⟨fun _ _ _ _ _ _ h => h.elim⟩
def PutS (x : V) (acc : Str) (H : Hp) (G : Str → Hp → Prop) : Prop := ∃ y : Str, x = .str y ∧ (acc ++ y).length ≤ sizeLine ∧ G (acc ++ y) H
def FmtV (x : V) (H : Hp) (Q : VK) : Prop := (∃ y : Str, x = .str y ∧ y.length ≤ sizeLine ∧ Q (.str y) H) ∨ ∃ i : Int, x = .int i ∧ i.natAbs.log2 < 1920 ∧ Q (.str (toString i)) H
def tJoin (ts : List TE) : TE := fun σ H Q => tJs ts Str.empty σ H fun out H1 => Q (.str out) H1
theorem pe_join {X : Cx} {v1 v2 : Expr} {rest : List Expr} {ts : List TE} {pos : Pos} (h : PJ X (v1 :: v2 :: rest) ts) : PE X (.JoinedStr (v1 :: v2 :: rest) pos) (tJoin ts) := pe_joined h
section
variable {σ : L2.St} {H : Hp} {Q : VK} {QS : Str → Hp → Prop} {t te : TE} {ts : List TE} {acc : Str} {i : Int} {x y : Str}
theorem log_lt {n : Nat} (h : n < 2 ^ 1900) : n.log2 < 1920 := Nat.lt_trans (PySem.Flt.log2_lt_of (by decide) h) (by decide)
theorem len_int {i : Int} (h : i.natAbs < 2 ^ 1900) : (Str.ofString (toString i)).length ≤ 1921 := int_text_len_1921 (log_lt h)
theorem i_join (h : tJs ts Str.empty σ H fun out H1 => Q (.str out) H1) : tJoin ts σ H Q := h
theorem i_js (h : t σ H fun x H1 => PutS x acc H1 fun out H2 => tJs ts out σ H2 QS) : tJs (t :: ts) acc σ H QS := h
theorem i_jsE (h : QS acc H) : tJs [] acc σ H QS := h
theorem i_puts (hz : (acc ++ y).length ≤ sizeLine) (h : QS (acc ++ y) H) : PutS (.str y) acc H QS := ⟨y, rfl, hz, h⟩
theorem i_fmt (h : te σ H fun x H1 => FmtV x H1 Q) : tFmt te σ H Q := h
theorem i_fmtI (hz : i.natAbs < 2 ^ 1900) (h : Q (.str (toString i)) H) : FmtV (.int i) H Q := .inr ⟨i, rfl, log_lt hz, h⟩
theorem i_fmtS (hz : y.length ≤ sizeLine) (h : Q (.str y) H) : FmtV (.str y) H Q := .inl ⟨y, rfl, hz, h⟩
theorem i_strI (hz : i.natAbs < 2 ^ 1900) (h : Q (.str (toString i)) H) : rStrI [.int i] H Q := ⟨i, rfl, log_lt hz, h⟩
theorem i_boolI (h : Q (.bl (i != 0)) H) : rBoolI [.int i] H Q := .inl ⟨i, rfl, h⟩
theorem i_addS (hz : x.length + y.length ≤ sizeLine) (h : Q (.str (x ++ y)) H) : rAddS (.str x) (.str y) H Q := ⟨x, y, rfl, rfl, hz, h⟩
end
end PB
local macro_rules | `(tactic| walk_at "pb1") => `(tactic| with_reducible (first | apply PB.i_join | apply PB.i_js | apply PB.i_jsE | apply PB.i_fmt | apply PB.i_boolI))
namespace Lw
open PySem PySem.Spec PyProof.Rows L2 PB
def topS (i : Nat) : Stmt := PySem.Challenge.pw_pairahead_k03_ratio_comparisons.main.body.getD i (.Pass ⟨0, 0, 0, 0⟩)
def d_divisor : He.DefD := ⟨("divisor", none), "divisor", "divisor", defArgs (topS 2), defBody (topS 2), defScope (topS 2), [], []⟩
def d_fraction : He.DefD := ⟨("fraction", none), "fraction", "fraction", defArgs (topS 3), defBody (topS 3), defScope (topS 3), [], []⟩
def d_Ratio_DinitD : He.DefD := ⟨("Ratio", some "__init__"), "__init__", "Ratio.__init__", defArgs (inClass (topS 4) 0), defBody (inClass (topS 4) 0), defScope (inClass (topS 4) 0), [.int 1], []⟩
def d_Ratio_DstrD : He.DefD := ⟨("Ratio", some "__str__"), "__str__", "Ratio.__str__", defArgs (inClass (topS 4) 1), defBody (inClass (topS 4) 1), defScope (inClass (topS 4) 1), [], []⟩
def d_Ratio_DaddD : He.DefD := ⟨("Ratio", some "__add__"), "__add__", "Ratio.__add__", defArgs (inClass (topS 4) 2), defBody (inClass (topS 4) 2), defScope (inClass (topS 4) 2), [], []⟩
def d_Ratio_DraddD : He.DefD := ⟨("Ratio", some "__radd__"), "__radd__", "Ratio.__radd__", defArgs (inClass (topS 4) 3), defBody (inClass (topS 4) 3), defScope (inClass (topS 4) 3), [], []⟩
def d_Ratio_DsubD : He.DefD := ⟨("Ratio", some "__sub__"), "__sub__", "Ratio.__sub__", defArgs (inClass (topS 4) 4), defBody (inClass (topS 4) 4), defScope (inClass (topS 4) 4), [], []⟩
def d_Ratio_DrsubD : He.DefD := ⟨("Ratio", some "__rsub__"), "__rsub__", "Ratio.__rsub__", defArgs (inClass (topS 4) 5), defBody (inClass (topS 4) 5), defScope (inClass (topS 4) 5), [], []⟩
def d_Ratio_DmulD : He.DefD := ⟨("Ratio", some "__mul__"), "__mul__", "Ratio.__mul__", defArgs (inClass (topS 4) 6), defBody (inClass (topS 4) 6), defScope (inClass (topS 4) 6), [], []⟩
def d_Ratio_DrmulD : He.DefD := ⟨("Ratio", some "__rmul__"), "__rmul__", "Ratio.__rmul__", defArgs (inClass (topS 4) 7), defBody (inClass (topS 4) 7), defScope (inClass (topS 4) 7), [], []⟩
def d_Ratio_DfloordivD : He.DefD := ⟨("Ratio", some "__floordiv__"), "__floordiv__", "Ratio.__floordiv__", defArgs (inClass (topS 4) 8), defBody (inClass (topS 4) 8), defScope (inClass (topS 4) 8), [], []⟩
def d_Ratio_DmodD : He.DefD := ⟨("Ratio", some "__mod__"), "__mod__", "Ratio.__mod__", defArgs (inClass (topS 4) 9), defBody (inClass (topS 4) 9), defScope (inClass (topS 4) 9), [], []⟩
def d_Ratio_DnegD : He.DefD := ⟨("Ratio", some "__neg__"), "__neg__", "Ratio.__neg__", defArgs (inClass (topS 4) 10), defBody (inClass (topS 4) 10), defScope (inClass (topS 4) 10), [], []⟩
def d_Ratio_DabsD : He.DefD := ⟨("Ratio", some "__abs__"), "__abs__", "Ratio.__abs__", defArgs (inClass (topS 4) 11), defBody (inClass (topS 4) 11), defScope (inClass (topS 4) 11), [], []⟩
def d_Ratio_DboolD : He.DefD := ⟨("Ratio", some "__bool__"), "__bool__", "Ratio.__bool__", defArgs (inClass (topS 4) 12), defBody (inClass (topS 4) 12), defScope (inClass (topS 4) 12), [], []⟩
def d_Ratio_DeqD : He.DefD := ⟨("Ratio", some "__eq__"), "__eq__", "Ratio.__eq__", defArgs (inClass (topS 4) 13), defBody (inClass (topS 4) 13), defScope (inClass (topS 4) 13), [], []⟩
def d_Ratio_DltD : He.DefD := ⟨("Ratio", some "__lt__"), "__lt__", "Ratio.__lt__", defArgs (inClass (topS 4) 14), defBody (inClass (topS 4) 14), defScope (inClass (topS 4) 14), [], []⟩
def d_Ratio_DleD : He.DefD := ⟨("Ratio", some "__le__"), "__le__", "Ratio.__le__", defArgs (inClass (topS 4) 15), defBody (inClass (topS 4) 15), defScope (inClass (topS 4) 15), [], []⟩
def d_Ratio_DgtD : He.DefD := ⟨("Ratio", some "__gt__"), "__gt__", "Ratio.__gt__", defArgs (inClass (topS 4) 16), defBody (inClass (topS 4) 16), defScope (inClass (topS 4) 16), [], []⟩
def d_Ratio_DgeD : He.DefD := ⟨("Ratio", some "__ge__"), "__ge__", "Ratio.__ge__", defArgs (inClass (topS 4) 17), defBody (inClass (topS 4) 17), defScope (inClass (topS 4) 17), [], []⟩
def d_Ratio_over : He.DefD := ⟨("Ratio", some "over"), "over", "Ratio.over", defArgs (inClass (topS 4) 18), defBody (inClass (topS 4) 18), defScope (inClass (topS 4) 18), [], []⟩
def d_l_draw : He.DefD := ⟨("_law_draw", none), "_law_draw", "_law_draw", defArgs (topS 6), defBody (topS 6), defScope (topS 6), [], []⟩
def d_l_start : He.DefD := ⟨("_law_start", none), "_law_start", "_law_start", defArgs (topS 7), defBody (topS 7), defScope (topS 7), [], []⟩
def d_l_same : He.DefD := ⟨("_law_same", none), "_law_same", "_law_same", defArgs (topS 8), defBody (topS 8), defScope (topS 8), [], []⟩
def d_l_m_number : He.DefD := ⟨("_law_m_number", none), "_law_m_number", "_law_m_number", defArgs (topS 9), defBody (topS 9), defScope (topS 9), [], []⟩
def d_l_m_divisor : He.DefD := ⟨("_law_m_divisor", none), "_law_m_divisor", "_law_m_divisor", defArgs (topS 10), defBody (topS 10), defScope (topS 10), [], []⟩
def d_l_compared : He.DefD := ⟨("_law_compared", none), "_law_compared", "_law_compared", defArgs (topS 11), defBody (topS 11), defScope (topS 11), [], []⟩
def d_l_due : He.DefD := ⟨("_law_due", none), "_law_due", "_law_due", defArgs (topS 12), defBody (topS 12), defScope (topS 12), [], []⟩
def d_l_text : He.DefD := ⟨("_law_text", none), "_law_text", "_law_text", defArgs (topS 13), defBody (topS 13), defScope (topS 13), [], []⟩
def d_law : He.DefD := ⟨("law", none), "law", "law", defArgs (topS 14), defBody (topS 14), defScope (topS 14), [], []⟩
def fn : List He.DefD := [d_divisor, d_fraction, d_Ratio_DinitD, d_Ratio_DstrD, d_Ratio_DaddD, d_Ratio_DraddD, d_Ratio_DsubD, d_Ratio_DrsubD, d_Ratio_DmulD, d_Ratio_DrmulD, d_Ratio_DfloordivD, d_Ratio_DmodD, d_Ratio_DnegD, d_Ratio_DabsD, d_Ratio_DboolD, d_Ratio_DeqD, d_Ratio_DltD, d_Ratio_DleD, d_Ratio_DgtD, d_Ratio_DgeD, d_Ratio_over, d_l_draw, d_l_start, d_l_same, d_l_m_number, d_l_m_divisor, d_l_compared, d_l_due, d_l_text, d_law]
def fa : List He.Fa := [.glo "divisor", .glo "fraction", .glo "Ratio", .glo "_law_draw", .glo "_law_start", .glo "_law_same", .glo "_law_m_number", .glo "_law_m_divisor", .glo "_law_compared", .glo "_law_due", .glo "_law_text", .glo "law", .free "NotImplemented", .free "ZeroDivisionError", .free "abs", .free "all", .free "bool", .free "int", .free "isinstance", .free "len", .free "list", .free "str", .free "tuple", .free "zip", .cls "Ratio", .mkr "Ratio", .meth "Ratio" "__init__", .meth "Ratio" "__str__", .meth "Ratio" "__add__", .meth "Ratio" "__radd__", .meth "Ratio" "__sub__", .meth "Ratio" "__rsub__", .meth "Ratio" "__mul__", .meth "Ratio" "__rmul__", .meth "Ratio" "__floordiv__", .meth "Ratio" "__mod__", .meth "Ratio" "__neg__", .meth "Ratio" "__abs__", .meth "Ratio" "__bool__", .meth "Ratio" "__eq__", .meth "Ratio" "__lt__", .meth "Ratio" "__le__", .meth "Ratio" "__gt__", .meth "Ratio" "__ge__", .meth "Ratio" "over", .noat "Ratio" "top", .noat "Ratio" "bottom"]
def bs : List (PySem.W.Frag → Bool) := [PB.neB "Ratio", PB.ownNB "Ratio", PB.isiB "Ratio"]
structure Tx (K : PySem.W.Frag) (mg : Str → Option Value) : Prop where
  d_divisor : ∃ fd, FunD K "divisor" "divisor" (defArgs (topS 2)) (defBody (topS 2)) (defScope (topS 2)) [] [] (He.ga K "divisor") fd
  d_fraction : ∃ fd, FunD K "fraction" "fraction" (defArgs (topS 3)) (defBody (topS 3)) (defScope (topS 3)) [] [] (He.ga K "fraction") fd
  d_Ratio_DinitD : ∃ fd, FunD K "__init__" "Ratio.__init__" (defArgs (inClass (topS 4) 0)) (defBody (inClass (topS 4) 0)) (defScope (inClass (topS 4) 0)) [V.int 1] [] (He.ma K (He.ga K "Ratio") "__init__") fd
  d_Ratio_DstrD : ∃ fd, FunD K "__str__" "Ratio.__str__" (defArgs (inClass (topS 4) 1)) (defBody (inClass (topS 4) 1)) (defScope (inClass (topS 4) 1)) [] [] (He.ma K (He.ga K "Ratio") "__str__") fd
  d_Ratio_DaddD : ∃ fd, FunD K "__add__" "Ratio.__add__" (defArgs (inClass (topS 4) 2)) (defBody (inClass (topS 4) 2)) (defScope (inClass (topS 4) 2)) [] [] (He.ma K (He.ga K "Ratio") "__add__") fd
  d_Ratio_DraddD : ∃ fd, FunD K "__radd__" "Ratio.__radd__" (defArgs (inClass (topS 4) 3)) (defBody (inClass (topS 4) 3)) (defScope (inClass (topS 4) 3)) [] [] (He.ma K (He.ga K "Ratio") "__radd__") fd
  d_Ratio_DsubD : ∃ fd, FunD K "__sub__" "Ratio.__sub__" (defArgs (inClass (topS 4) 4)) (defBody (inClass (topS 4) 4)) (defScope (inClass (topS 4) 4)) [] [] (He.ma K (He.ga K "Ratio") "__sub__") fd
  d_Ratio_DrsubD : ∃ fd, FunD K "__rsub__" "Ratio.__rsub__" (defArgs (inClass (topS 4) 5)) (defBody (inClass (topS 4) 5)) (defScope (inClass (topS 4) 5)) [] [] (He.ma K (He.ga K "Ratio") "__rsub__") fd
  d_Ratio_DmulD : ∃ fd, FunD K "__mul__" "Ratio.__mul__" (defArgs (inClass (topS 4) 6)) (defBody (inClass (topS 4) 6)) (defScope (inClass (topS 4) 6)) [] [] (He.ma K (He.ga K "Ratio") "__mul__") fd
  d_Ratio_DrmulD : ∃ fd, FunD K "__rmul__" "Ratio.__rmul__" (defArgs (inClass (topS 4) 7)) (defBody (inClass (topS 4) 7)) (defScope (inClass (topS 4) 7)) [] [] (He.ma K (He.ga K "Ratio") "__rmul__") fd
  d_Ratio_DfloordivD : ∃ fd, FunD K "__floordiv__" "Ratio.__floordiv__" (defArgs (inClass (topS 4) 8)) (defBody (inClass (topS 4) 8)) (defScope (inClass (topS 4) 8)) [] [] (He.ma K (He.ga K "Ratio") "__floordiv__") fd
  d_Ratio_DmodD : ∃ fd, FunD K "__mod__" "Ratio.__mod__" (defArgs (inClass (topS 4) 9)) (defBody (inClass (topS 4) 9)) (defScope (inClass (topS 4) 9)) [] [] (He.ma K (He.ga K "Ratio") "__mod__") fd
  d_Ratio_DnegD : ∃ fd, FunD K "__neg__" "Ratio.__neg__" (defArgs (inClass (topS 4) 10)) (defBody (inClass (topS 4) 10)) (defScope (inClass (topS 4) 10)) [] [] (He.ma K (He.ga K "Ratio") "__neg__") fd
  d_Ratio_DabsD : ∃ fd, FunD K "__abs__" "Ratio.__abs__" (defArgs (inClass (topS 4) 11)) (defBody (inClass (topS 4) 11)) (defScope (inClass (topS 4) 11)) [] [] (He.ma K (He.ga K "Ratio") "__abs__") fd
  d_Ratio_DboolD : ∃ fd, FunD K "__bool__" "Ratio.__bool__" (defArgs (inClass (topS 4) 12)) (defBody (inClass (topS 4) 12)) (defScope (inClass (topS 4) 12)) [] [] (He.ma K (He.ga K "Ratio") "__bool__") fd
  d_Ratio_DeqD : ∃ fd, FunD K "__eq__" "Ratio.__eq__" (defArgs (inClass (topS 4) 13)) (defBody (inClass (topS 4) 13)) (defScope (inClass (topS 4) 13)) [] [] (He.ma K (He.ga K "Ratio") "__eq__") fd
  d_Ratio_DltD : ∃ fd, FunD K "__lt__" "Ratio.__lt__" (defArgs (inClass (topS 4) 14)) (defBody (inClass (topS 4) 14)) (defScope (inClass (topS 4) 14)) [] [] (He.ma K (He.ga K "Ratio") "__lt__") fd
  d_Ratio_DleD : ∃ fd, FunD K "__le__" "Ratio.__le__" (defArgs (inClass (topS 4) 15)) (defBody (inClass (topS 4) 15)) (defScope (inClass (topS 4) 15)) [] [] (He.ma K (He.ga K "Ratio") "__le__") fd
  d_Ratio_DgtD : ∃ fd, FunD K "__gt__" "Ratio.__gt__" (defArgs (inClass (topS 4) 16)) (defBody (inClass (topS 4) 16)) (defScope (inClass (topS 4) 16)) [] [] (He.ma K (He.ga K "Ratio") "__gt__") fd
  d_Ratio_DgeD : ∃ fd, FunD K "__ge__" "Ratio.__ge__" (defArgs (inClass (topS 4) 17)) (defBody (inClass (topS 4) 17)) (defScope (inClass (topS 4) 17)) [] [] (He.ma K (He.ga K "Ratio") "__ge__") fd
  d_Ratio_over : ∃ fd, FunD K "over" "Ratio.over" (defArgs (inClass (topS 4) 18)) (defBody (inClass (topS 4) 18)) (defScope (inClass (topS 4) 18)) [] [] (He.ma K (He.ga K "Ratio") "over") fd
  d_l_draw : ∃ fd, FunD K "_law_draw" "_law_draw" (defArgs (topS 6)) (defBody (topS 6)) (defScope (topS 6)) [] [] (He.ga K "_law_draw") fd
  d_l_start : ∃ fd, FunD K "_law_start" "_law_start" (defArgs (topS 7)) (defBody (topS 7)) (defScope (topS 7)) [] [] (He.ga K "_law_start") fd
  d_l_same : ∃ fd, FunD K "_law_same" "_law_same" (defArgs (topS 8)) (defBody (topS 8)) (defScope (topS 8)) [] [] (He.ga K "_law_same") fd
  d_l_m_number : ∃ fd, FunD K "_law_m_number" "_law_m_number" (defArgs (topS 9)) (defBody (topS 9)) (defScope (topS 9)) [] [] (He.ga K "_law_m_number") fd
  d_l_m_divisor : ∃ fd, FunD K "_law_m_divisor" "_law_m_divisor" (defArgs (topS 10)) (defBody (topS 10)) (defScope (topS 10)) [] [] (He.ga K "_law_m_divisor") fd
  d_l_compared : ∃ fd, FunD K "_law_compared" "_law_compared" (defArgs (topS 11)) (defBody (topS 11)) (defScope (topS 11)) [] [] (He.ga K "_law_compared") fd
  d_l_due : ∃ fd, FunD K "_law_due" "_law_due" (defArgs (topS 12)) (defBody (topS 12)) (defScope (topS 12)) [] [] (He.ga K "_law_due") fd
  d_l_text : ∃ fd, FunD K "_law_text" "_law_text" (defArgs (topS 13)) (defBody (topS 13)) (defScope (topS 13)) [] [] (He.ga K "_law_text") fd
  d_law : ∃ fd, FunD K "law" "law" (defArgs (topS 14)) (defBody (topS 14)) (defScope (topS 14)) [] [] (He.ga K "law") fd
  g_divisor : mg "divisor" = some (.ref (He.ga K "divisor"))
  g_fraction : mg "fraction" = some (.ref (He.ga K "fraction"))
  g_Ratio : mg "Ratio" = some (.ref (He.ga K "Ratio"))
  g_l_draw : mg "_law_draw" = some (.ref (He.ga K "_law_draw"))
  g_l_start : mg "_law_start" = some (.ref (He.ga K "_law_start"))
  g_l_same : mg "_law_same" = some (.ref (He.ga K "_law_same"))
  g_l_m_number : mg "_law_m_number" = some (.ref (He.ga K "_law_m_number"))
  g_l_m_divisor : mg "_law_m_divisor" = some (.ref (He.ga K "_law_m_divisor"))
  g_l_compared : mg "_law_compared" = some (.ref (He.ga K "_law_compared"))
  g_l_due : mg "_law_due" = some (.ref (He.ga K "_law_due"))
  g_l_text : mg "_law_text" = some (.ref (He.ga K "_law_text"))
  g_law : mg "law" = some (.ref (He.ga K "law"))
  f_NotImplemented : mg "NotImplemented" = none
  f_ZeroDivisionError : mg "ZeroDivisionError" = none
  f_abs : mg "abs" = none
  f_all : mg "all" = none
  f_bool : mg "bool" = none
  f_int : mg "int" = none
  f_isinstance : mg "isinstance" = none
  f_len : mg "len" = none
  f_list : mg "list" = none
  f_str : mg "str" = none
  f_tuple : mg "tuple" = none
  f_zip : mg "zip" = none
  cls_Ratio : Cls K (He.ga K "Ratio")
  mk_Ratio : Mk K (He.ga K "Ratio") (He.ma K (He.ga K "Ratio") "__init__")
  meth_Ratio_DinitD : Meth K (He.ga K "Ratio") "__init__" (He.ma K (He.ga K "Ratio") "__init__")
  meth_Ratio_DstrD : Meth K (He.ga K "Ratio") "__str__" (He.ma K (He.ga K "Ratio") "__str__")
  meth_Ratio_DaddD : Meth K (He.ga K "Ratio") "__add__" (He.ma K (He.ga K "Ratio") "__add__")
  meth_Ratio_DraddD : Meth K (He.ga K "Ratio") "__radd__" (He.ma K (He.ga K "Ratio") "__radd__")
  meth_Ratio_DsubD : Meth K (He.ga K "Ratio") "__sub__" (He.ma K (He.ga K "Ratio") "__sub__")
  meth_Ratio_DrsubD : Meth K (He.ga K "Ratio") "__rsub__" (He.ma K (He.ga K "Ratio") "__rsub__")
  meth_Ratio_DmulD : Meth K (He.ga K "Ratio") "__mul__" (He.ma K (He.ga K "Ratio") "__mul__")
  meth_Ratio_DrmulD : Meth K (He.ga K "Ratio") "__rmul__" (He.ma K (He.ga K "Ratio") "__rmul__")
  meth_Ratio_DfloordivD : Meth K (He.ga K "Ratio") "__floordiv__" (He.ma K (He.ga K "Ratio") "__floordiv__")
  meth_Ratio_DmodD : Meth K (He.ga K "Ratio") "__mod__" (He.ma K (He.ga K "Ratio") "__mod__")
  meth_Ratio_DnegD : Meth K (He.ga K "Ratio") "__neg__" (He.ma K (He.ga K "Ratio") "__neg__")
  meth_Ratio_DabsD : Meth K (He.ga K "Ratio") "__abs__" (He.ma K (He.ga K "Ratio") "__abs__")
  meth_Ratio_DboolD : Meth K (He.ga K "Ratio") "__bool__" (He.ma K (He.ga K "Ratio") "__bool__")
  meth_Ratio_DeqD : Meth K (He.ga K "Ratio") "__eq__" (He.ma K (He.ga K "Ratio") "__eq__")
  meth_Ratio_DltD : Meth K (He.ga K "Ratio") "__lt__" (He.ma K (He.ga K "Ratio") "__lt__")
  meth_Ratio_DleD : Meth K (He.ga K "Ratio") "__le__" (He.ma K (He.ga K "Ratio") "__le__")
  meth_Ratio_DgtD : Meth K (He.ga K "Ratio") "__gt__" (He.ma K (He.ga K "Ratio") "__gt__")
  meth_Ratio_DgeD : Meth K (He.ga K "Ratio") "__ge__" (He.ma K (He.ga K "Ratio") "__ge__")
  meth_Ratio_over : Meth K (He.ga K "Ratio") "over" (He.ma K (He.ga K "Ratio") "over")
  noat_Ratio_top : NoAttr K (He.ga K "Ratio") "top"
  noat_Ratio_bottom : NoAttr K (He.ga K "Ratio") "bottom"
  ne_Ratio : PB.NeD K (He.ga K "Ratio")
  own_Ratio : PB.OwnN K (He.ga K "Ratio")
  isi_Ratio : PB.IsiC K (He.ga K "Ratio")
theorem tx_of {K : PySem.W.Frag} {h : Heap} {mg : Str → Option Value} (X : K.In h) (G : h.Ns mainGlobals mg) (c : PB.SaysP fa fn bs K) : Tx K mg :=
  { d_divisor := c.1.def_ 0 (d := d_divisor) rfl,
    d_fraction := c.1.def_ 1 (d := d_fraction) rfl,
    d_Ratio_DinitD := c.1.def_ 2 (d := d_Ratio_DinitD) rfl,
    d_Ratio_DstrD := c.1.def_ 3 (d := d_Ratio_DstrD) rfl,
    d_Ratio_DaddD := c.1.def_ 4 (d := d_Ratio_DaddD) rfl,
    d_Ratio_DraddD := c.1.def_ 5 (d := d_Ratio_DraddD) rfl,
    d_Ratio_DsubD := c.1.def_ 6 (d := d_Ratio_DsubD) rfl,
    d_Ratio_DrsubD := c.1.def_ 7 (d := d_Ratio_DrsubD) rfl,
    d_Ratio_DmulD := c.1.def_ 8 (d := d_Ratio_DmulD) rfl,
    d_Ratio_DrmulD := c.1.def_ 9 (d := d_Ratio_DrmulD) rfl,
    d_Ratio_DfloordivD := c.1.def_ 10 (d := d_Ratio_DfloordivD) rfl,
    d_Ratio_DmodD := c.1.def_ 11 (d := d_Ratio_DmodD) rfl,
    d_Ratio_DnegD := c.1.def_ 12 (d := d_Ratio_DnegD) rfl,
    d_Ratio_DabsD := c.1.def_ 13 (d := d_Ratio_DabsD) rfl,
    d_Ratio_DboolD := c.1.def_ 14 (d := d_Ratio_DboolD) rfl,
    d_Ratio_DeqD := c.1.def_ 15 (d := d_Ratio_DeqD) rfl,
    d_Ratio_DltD := c.1.def_ 16 (d := d_Ratio_DltD) rfl,
    d_Ratio_DleD := c.1.def_ 17 (d := d_Ratio_DleD) rfl,
    d_Ratio_DgtD := c.1.def_ 18 (d := d_Ratio_DgtD) rfl,
    d_Ratio_DgeD := c.1.def_ 19 (d := d_Ratio_DgeD) rfl,
    d_Ratio_over := c.1.def_ 20 (d := d_Ratio_over) rfl,
    d_l_draw := c.1.def_ 21 (d := d_l_draw) rfl,
    d_l_start := c.1.def_ 22 (d := d_l_start) rfl,
    d_l_same := c.1.def_ 23 (d := d_l_same) rfl,
    d_l_m_number := c.1.def_ 24 (d := d_l_m_number) rfl,
    d_l_m_divisor := c.1.def_ 25 (d := d_l_m_divisor) rfl,
    d_l_compared := c.1.def_ 26 (d := d_l_compared) rfl,
    d_l_due := c.1.def_ 27 (d := d_l_due) rfl,
    d_l_text := c.1.def_ 28 (d := d_l_text) rfl,
    d_law := c.1.def_ 29 (d := d_law) rfl,
    g_divisor := He.glo_ok X G (c.1.fact 0 (f := .glo "divisor") rfl),
    g_fraction := He.glo_ok X G (c.1.fact 1 (f := .glo "fraction") rfl),
    g_Ratio := He.glo_ok X G (c.1.fact 2 (f := .glo "Ratio") rfl),
    g_l_draw := He.glo_ok X G (c.1.fact 3 (f := .glo "_law_draw") rfl),
    g_l_start := He.glo_ok X G (c.1.fact 4 (f := .glo "_law_start") rfl),
    g_l_same := He.glo_ok X G (c.1.fact 5 (f := .glo "_law_same") rfl),
    g_l_m_number := He.glo_ok X G (c.1.fact 6 (f := .glo "_law_m_number") rfl),
    g_l_m_divisor := He.glo_ok X G (c.1.fact 7 (f := .glo "_law_m_divisor") rfl),
    g_l_compared := He.glo_ok X G (c.1.fact 8 (f := .glo "_law_compared") rfl),
    g_l_due := He.glo_ok X G (c.1.fact 9 (f := .glo "_law_due") rfl),
    g_l_text := He.glo_ok X G (c.1.fact 10 (f := .glo "_law_text") rfl),
    g_law := He.glo_ok X G (c.1.fact 11 (f := .glo "law") rfl),
    f_NotImplemented := He.free_ok X G (c.1.fact 12 (f := .free "NotImplemented") rfl),
    f_ZeroDivisionError := He.free_ok X G (c.1.fact 13 (f := .free "ZeroDivisionError") rfl),
    f_abs := He.free_ok X G (c.1.fact 14 (f := .free "abs") rfl),
    f_all := He.free_ok X G (c.1.fact 15 (f := .free "all") rfl),
    f_bool := He.free_ok X G (c.1.fact 16 (f := .free "bool") rfl),
    f_int := He.free_ok X G (c.1.fact 17 (f := .free "int") rfl),
    f_isinstance := He.free_ok X G (c.1.fact 18 (f := .free "isinstance") rfl),
    f_len := He.free_ok X G (c.1.fact 19 (f := .free "len") rfl),
    f_list := He.free_ok X G (c.1.fact 20 (f := .free "list") rfl),
    f_str := He.free_ok X G (c.1.fact 21 (f := .free "str") rfl),
    f_tuple := He.free_ok X G (c.1.fact 22 (f := .free "tuple") rfl),
    f_zip := He.free_ok X G (c.1.fact 23 (f := .free "zip") rfl),
    cls_Ratio := He.cls_ok (c.1.fact 24 (f := .cls "Ratio") rfl),
    mk_Ratio := He.mkr_ok (c.1.fact 25 (f := .mkr "Ratio") rfl),
    meth_Ratio_DinitD := He.meth_ok (c.1.fact 26 (f := .meth "Ratio" "__init__") rfl),
    meth_Ratio_DstrD := He.meth_ok (c.1.fact 27 (f := .meth "Ratio" "__str__") rfl),
    meth_Ratio_DaddD := He.meth_ok (c.1.fact 28 (f := .meth "Ratio" "__add__") rfl),
    meth_Ratio_DraddD := He.meth_ok (c.1.fact 29 (f := .meth "Ratio" "__radd__") rfl),
    meth_Ratio_DsubD := He.meth_ok (c.1.fact 30 (f := .meth "Ratio" "__sub__") rfl),
    meth_Ratio_DrsubD := He.meth_ok (c.1.fact 31 (f := .meth "Ratio" "__rsub__") rfl),
    meth_Ratio_DmulD := He.meth_ok (c.1.fact 32 (f := .meth "Ratio" "__mul__") rfl),
    meth_Ratio_DrmulD := He.meth_ok (c.1.fact 33 (f := .meth "Ratio" "__rmul__") rfl),
    meth_Ratio_DfloordivD := He.meth_ok (c.1.fact 34 (f := .meth "Ratio" "__floordiv__") rfl),
    meth_Ratio_DmodD := He.meth_ok (c.1.fact 35 (f := .meth "Ratio" "__mod__") rfl),
    meth_Ratio_DnegD := He.meth_ok (c.1.fact 36 (f := .meth "Ratio" "__neg__") rfl),
    meth_Ratio_DabsD := He.meth_ok (c.1.fact 37 (f := .meth "Ratio" "__abs__") rfl),
    meth_Ratio_DboolD := He.meth_ok (c.1.fact 38 (f := .meth "Ratio" "__bool__") rfl),
    meth_Ratio_DeqD := He.meth_ok (c.1.fact 39 (f := .meth "Ratio" "__eq__") rfl),
    meth_Ratio_DltD := He.meth_ok (c.1.fact 40 (f := .meth "Ratio" "__lt__") rfl),
    meth_Ratio_DleD := He.meth_ok (c.1.fact 41 (f := .meth "Ratio" "__le__") rfl),
    meth_Ratio_DgtD := He.meth_ok (c.1.fact 42 (f := .meth "Ratio" "__gt__") rfl),
    meth_Ratio_DgeD := He.meth_ok (c.1.fact 43 (f := .meth "Ratio" "__ge__") rfl),
    meth_Ratio_over := He.meth_ok (c.1.fact 44 (f := .meth "Ratio" "over") rfl),
    noat_Ratio_top := He.noat_ok (c.1.fact 45 (f := .noat "Ratio" "top") rfl),
    noat_Ratio_bottom := He.noat_ok (c.1.fact 46 (f := .noat "Ratio" "bottom") rfl),
    ne_Ratio := PB.ne_of_b (c.bool 0),
    own_Ratio := PB.ownN_of (c.bool 1),
    isi_Ratio := PB.isi_of (c.bool 2) }
theorem sc_divisor : FnScope ["first", "second"] ["first", "second"] (defScope (topS 2)) := ⟨rfl, rfl, rfl, by decide +kernel, rfl, by decide +kernel, by decide +kernel⟩
theorem sc_fraction : FnScope ["value"] ["value"] (defScope (topS 3)) := ⟨rfl, rfl, rfl, by decide +kernel, rfl, by decide +kernel, by decide +kernel⟩
theorem sc_Ratio_DinitD : FnScope ["self", "top", "bottom", "common"] ["self", "top", "bottom"] (defScope (inClass (topS 4) 0)) := ⟨rfl, rfl, rfl, by decide +kernel, rfl, by decide +kernel, by decide +kernel⟩
theorem sc_Ratio_DstrD : FnScope ["self"] ["self"] (defScope (inClass (topS 4) 1)) := ⟨rfl, rfl, rfl, by decide +kernel, rfl, by decide +kernel, by decide +kernel⟩
theorem sc_Ratio_DaddD : FnScope ["self", "other", "top", "bottom"] ["self", "other"] (defScope (inClass (topS 4) 2)) := ⟨rfl, rfl, rfl, by decide +kernel, rfl, by decide +kernel, by decide +kernel⟩
theorem sc_Ratio_DraddD : FnScope ["self", "other"] ["self", "other"] (defScope (inClass (topS 4) 3)) := ⟨rfl, rfl, rfl, by decide +kernel, rfl, by decide +kernel, by decide +kernel⟩
theorem sc_Ratio_DsubD : FnScope ["self", "other", "top", "bottom"] ["self", "other"] (defScope (inClass (topS 4) 4)) := ⟨rfl, rfl, rfl, by decide +kernel, rfl, by decide +kernel, by decide +kernel⟩
theorem sc_Ratio_DrsubD : FnScope ["self", "other"] ["self", "other"] (defScope (inClass (topS 4) 5)) := ⟨rfl, rfl, rfl, by decide +kernel, rfl, by decide +kernel, by decide +kernel⟩
theorem sc_Ratio_DmulD : FnScope ["self", "other", "top", "bottom"] ["self", "other"] (defScope (inClass (topS 4) 6)) := ⟨rfl, rfl, rfl, by decide +kernel, rfl, by decide +kernel, by decide +kernel⟩
theorem sc_Ratio_DrmulD : FnScope ["self", "other"] ["self", "other"] (defScope (inClass (topS 4) 7)) := ⟨rfl, rfl, rfl, by decide +kernel, rfl, by decide +kernel, by decide +kernel⟩
theorem sc_Ratio_DfloordivD : FnScope ["self", "other", "top", "bottom"] ["self", "other"] (defScope (inClass (topS 4) 8)) := ⟨rfl, rfl, rfl, by decide +kernel, rfl, by decide +kernel, by decide +kernel⟩
theorem sc_Ratio_DmodD : FnScope ["self", "other"] ["self", "other"] (defScope (inClass (topS 4) 9)) := ⟨rfl, rfl, rfl, by decide +kernel, rfl, by decide +kernel, by decide +kernel⟩
theorem sc_Ratio_DnegD : FnScope ["self"] ["self"] (defScope (inClass (topS 4) 10)) := ⟨rfl, rfl, rfl, by decide +kernel, rfl, by decide +kernel, by decide +kernel⟩
theorem sc_Ratio_DabsD : FnScope ["self"] ["self"] (defScope (inClass (topS 4) 11)) := ⟨rfl, rfl, rfl, by decide +kernel, rfl, by decide +kernel, by decide +kernel⟩
theorem sc_Ratio_DboolD : FnScope ["self"] ["self"] (defScope (inClass (topS 4) 12)) := ⟨rfl, rfl, rfl, by decide +kernel, rfl, by decide +kernel, by decide +kernel⟩
theorem sc_Ratio_DeqD : FnScope ["self", "other", "top", "bottom"] ["self", "other"] (defScope (inClass (topS 4) 13)) := ⟨rfl, rfl, rfl, by decide +kernel, rfl, by decide +kernel, by decide +kernel⟩
theorem sc_Ratio_DltD : FnScope ["self", "other", "top", "bottom"] ["self", "other"] (defScope (inClass (topS 4) 14)) := ⟨rfl, rfl, rfl, by decide +kernel, rfl, by decide +kernel, by decide +kernel⟩
theorem sc_Ratio_DleD : FnScope ["self", "other", "top", "bottom"] ["self", "other"] (defScope (inClass (topS 4) 15)) := ⟨rfl, rfl, rfl, by decide +kernel, rfl, by decide +kernel, by decide +kernel⟩
theorem sc_Ratio_DgtD : FnScope ["self", "other", "top", "bottom"] ["self", "other"] (defScope (inClass (topS 4) 16)) := ⟨rfl, rfl, rfl, by decide +kernel, rfl, by decide +kernel, by decide +kernel⟩
theorem sc_Ratio_DgeD : FnScope ["self", "other", "top", "bottom"] ["self", "other"] (defScope (inClass (topS 4) 17)) := ⟨rfl, rfl, rfl, by decide +kernel, rfl, by decide +kernel, by decide +kernel⟩
theorem sc_Ratio_over : FnScope ["self", "other"] ["self", "other"] (defScope (inClass (topS 4) 18)) := ⟨rfl, rfl, rfl, by decide +kernel, rfl, by decide +kernel, by decide +kernel⟩
theorem sc_l_draw : FnScope ["_law_stream", "_law_many", "_law_digit", "_law_mixed"] ["_law_stream", "_law_many"] (defScope (topS 6)) := ⟨rfl, rfl, rfl, by decide +kernel, rfl, by decide +kernel, by decide +kernel⟩
theorem sc_l_start : FnScope ["_law_script"] ["_law_script"] (defScope (topS 7)) := ⟨rfl, rfl, rfl, by decide +kernel, rfl, by decide +kernel, by decide +kernel⟩
theorem sc_l_same : FnScope ["_law_found", "_law_due_here", "_law_one", "_law_other"] ["_law_found", "_law_due_here"] (defScope (topS 8)) := ⟨rfl, rfl, rfl, by decide +kernel, rfl, by decide +kernel, by decide +kernel⟩
theorem sc_l_m_number : FnScope ["_law_stream", "_law_kind", "_law_size"] ["_law_stream"] (defScope (topS 9)) := ⟨rfl, rfl, rfl, by decide +kernel, rfl, by decide +kernel, by decide +kernel⟩
theorem sc_l_m_divisor : FnScope ["_law_one", "_law_other"] ["_law_one", "_law_other"] (defScope (topS 10)) := ⟨rfl, rfl, rfl, by decide +kernel, rfl, by decide +kernel, by decide +kernel⟩
theorem sc_l_compared : FnScope ["_law_one", "_law_other"] ["_law_one", "_law_other"] (defScope (topS 11)) := ⟨rfl, rfl, rfl, by decide +kernel, rfl, by decide +kernel, by decide +kernel⟩
theorem sc_l_due : FnScope ["_law_gap"] ["_law_gap"] (defScope (topS 12)) := ⟨rfl, rfl, rfl, by decide +kernel, rfl, by decide +kernel, by decide +kernel⟩
theorem sc_l_text : FnScope ["_law_high", "_law_low", "_law_common"] ["_law_high", "_law_low"] (defScope (topS 13)) := ⟨rfl, rfl, rfl, by decide +kernel, rfl, by decide +kernel, by decide +kernel⟩
theorem sc_law : FnScope ["_law_script", "_law_stream", "_law_high", "_law_other", "_law_whole", "_law_low", "_law_under", "_law_near", "_law_by", "_law_one", "_law_two", "_law_sign", "_law_gap", "_law_rest"] ["_law_script"] (defScope (topS 14)) := ⟨rfl, rfl, rfl, by decide +kernel, rfl, by decide +kernel, by decide +kernel⟩
end Lw
namespace Lw
open PySem PySem.Spec PyProof.Rows L2 PB
theorem ok_l_draw {P : Program} {w : World} {K : PySem.W.Frag} {mg : Str → Option Value} {base : Heap} (T : Tx K mg) : OkF P w K mg base CX0 1 "_law_draw" ["_law_stream", "_law_many"] [] (spDraw) := by
  obtain ⟨fd, F⟩ := T.d_l_draw
  refine ⟨fd, [], F.ok sc_l_draw (fun vs H Q E h => ?len) (fun cdv A outer s H vs Q E hr h => ?body), T.g_l_draw, F.kp, F.bindsN fun _ _ _ _ _ _ us hl => match us, hl with | [_, _], _ => rfl, .nil⟩
  case len =>
    obtain ⟨S, l, n, many, rfl, _⟩ := h
    rfl
  case body =>
    obtain ⟨S, l, n, many, rfl, hm0, hmb, hn, ⟨hne, rest, c, m, q0, hq, hS, hl, hlen, hm1, hm2⟩, q⟩ := h
    have hne' : l ≠ S := Ne.symm hne
    refine ⟨_, PSs.nox (pss_cons (ps_asg (pe_op op_add (pe_ix ix_list (pv 0) pe_int (fun _ _ => rfl)) pe_int) (pg_sub (pv 0) pe_int set_list))
      (C8.pss_cut (ps_if (PW.pt (pw_and (pt_cmpR op_eq (pe_ix ix_list (pv 0) pe_int (fun _ _ => rfl)) pe_int (nomark _)) (pw_and1 (pt_cmpR (op_neD (hr64 hr)) (pe_ix ix_list (pv 0) pe_int (fun _ _ => rfl)) (pe_lst pa_nil) (nomark _))))) (pss_cons (ps_asg (pe_bm PySem.F.plainAttrs_list PySem.F.slot_list_pop PySem.F.type_list_pop mt_popAt (pe_ix ix_list (pv 0) pe_int (fun _ _ => rfl)) (pa_cons pe_int pa_nil)) (pg_sub (pv 0) pe_int set_list))
      (pss_one (ps_if (pt_cmpR op_lt (pe_ix ix_list (pv 0) pe_int (fun _ _ => rfl)) (pe_op op_pow pe_int pe_int) (nomark _)) (pss_cons (ps_asg (pe_op op_mod (pe_callTy call_int1 (by rfl) T.f_int (by decide +kernel) (pa_cons (pe_op op_add (pe_op op_add (pe_op op_mulW (pe_ix ix_list (pv 0) pe_int (fun _ _ => rfl)) pe_int) (pe_ix ix_list (pv 0) pe_int (fun _ _ => rfl))) pe_int) pa_nil)) pe_int) (pg_sub (pv 0) pe_int set_list))
      (pss_one (ps_asg pe_int (pg_sub (pv 0) pe_int set_list)))) pss_nil))) pss_nil)
      (pss_cons (ps_if (pt_cmpR op_gt (pe_ix ix_list (pv 0) pe_int (fun _ _ => rfl)) pe_int (nomark _)) (pss_cons (ps_set (i := 2) sc_l_draw.nd rfl (Or.inl rfl) (pe_op op_mod (pe_callTy call_int1 (by rfl) T.f_int (by decide +kernel) (pa_cons (pe_ix ix_list (pv 0) pe_int (fun _ _ => rfl)) pa_nil)) (pv 1)))
      (pss_cons (ps_asg (pe_op PB.op_fdivG (pe_ix ix_list (pv 0) pe_int (fun _ _ => rfl)) (pv 1)) (pg_sub (pv 0) pe_int set_list))
      (pss_one (ps_ret (pv 2))))) pss_nil)
      (pss_cons (ps_set (i := 3) sc_l_draw.nd rfl (Or.inl rfl) (pe_op op_mod (pe_op op_pow (pe_op op_add (pe_op op_add (pe_ix ix_list (pv 0) pe_int (fun _ _ => rfl)) (pe_op op_mulW pe_int (pe_ix ix_list (pv 0) pe_int (fun _ _ => rfl)))) pe_int) pe_int) pe_int))
      (pss_one (ps_ret (pe_op op_mod (pe_op op_mod (pe_op op_pow (pe_op op_add (pe_op op_add (pe_op op_mulW (pv 3) pe_int) (pe_op op_mulW (pe_op op_mulW pe_int (pe_ix ix_list (pv 0) pe_int (fun _ _ => rfl))) (pe_ix ix_list (pv 0) pe_int (fun _ _ => rfl)))) pe_int) pe_int) pe_int) (pv 1)))))))), ?_⟩
    try dsimp only [cxOf, Cx.nox, Cx.wish]
    rw [show ∀ z0 z1 : V, L2.start ["_law_stream", "_law_many", "_law_digit", "_law_mixed"] [z0, z1] = [some z0, some z1, none, none] from fun _ _ => rfl]
    walk_at "pb"
    refine i_ixL (SqL.of hS) rfl ?_
    walk_at "pb"
    refine i_setL hS rfl fun H1 k1 hS => ?_
    replace hl := k1.at_ _ _ (by simpa using hne') hl
    replace k1 : Keep [S, l] H H1 := k1.mono (by simp)
    replace hS : H1 S = some (.lst [.ref l, .int c, .int ((q0 + 1 : Nat) : Int), .int m]) := hS
    refine i_cut (fun σ' H' => σ' = [some (.ref S), some (.int many), none, none] ∧ Keep [S, l] H H' ∧ ∃ (rest : List Int) (c m : Int), H' S = some (.lst [.ref l, .int c, .int ((q0 + 1 : Nat) : Int), .int m]) ∧ H' l = some (.lst (rest.map V.int)) ∧ rest.length ≤ 63 ∧ 0 ≤ m ∧ m < 2147483647) ?_ ?_
    · walk_at "pb"
      refine i_ixL (SqL.of hS) rfl ?_
      walk_at "pb"
      refine b_eqI (fun hc => ?_) (fun hc => ?_)
      · subst hc
        walk_at "pb"
        refine i_ixL (SqL.of hS) rfl ?_
        walk_at "pb"
        refine i_lstR (by walk_at "sz") fun p H2 hp k2 hp2 => ?_
        replace hl := k2.at_ _ _ (by simp) hl
        replace hS := k2.at_ _ _ (by simp) hS
        replace k2 : Keep [S, l] H H2 := k1.trans k2.same
        refine i_neNil hl hp2 ?_
        walk_at "pb"
        refine b_nbool (fun he => ?_) (fun he => ?_)
        · obtain ⟨x, rest, rfl⟩ : ∃ x r, rest = x :: r := by
            cases rest with
            | nil => simp at he
            | cons x r => exact ⟨x, r, rfl⟩
          walk_at "pb"
          refine i_ixL (SqL.of hS) rfl ?_
          refine i_tyL (SqL.of hl) ?_
          walk_at "pb"
          refine i_pop0 hl fun H3 k3 hl => ?_
          replace hS := k3.at_ S _ (by simpa using hne) hS
          replace k3 : Keep [S, l] H H3 := k2.trans (k3.mono (by simp))
          walk_at "pb"
          refine i_setL hS rfl fun H4 k4 hS => ?_
          replace hl := k4.at_ _ _ (by simpa using hne') hl
          replace k4 : Keep [S, l] H H4 := k3.trans (k4.mono (by simp))
          replace hS : H4 S = some (.lst [.ref l, .int x, .int ((q0 + 1 : Nat) : Int), .int m]) := hS
          have hlen' : rest.length ≤ 63 := by rw [List.length_cons] at hlen; omega
          walk_at "pb"
          refine i_ixL (SqL.of hS) rfl ?_
          walk_at "pb"
          refine i_rI ⟨by decide, by decide, by decide⟩ ?_
          walk_at "pb"
          refine b_dec (fun hx => ?_) (fun hx => ?_)
          · walk_at "pb"
            refine i_ixL (SqL.of hS) rfl ?_
            walk_at "pb"
            refine i_rI (mulW_small (by rw [p64]; omega) (by decide)) ?_
            walk_at "pb"
            refine i_ixL (SqL.of hS) rfl ?_
            walk_at "pb"
            refine i_rI (by decide) ?_
            walk_at "pb"
            refine i_setL hS rfl fun H5 k5 hS => ?_
            replace hl := k5.at_ _ _ (by simpa using hne') hl
            replace k5 : Keep [S, l] H H5 := k4.trans (k5.mono (by simp))
            walk_at "pb"
            refine i_setL hS rfl fun H6 k6 hS => ?_
            replace hl := k6.at_ _ _ (by simpa using hne') hl
            replace k6 : Keep [S, l] H H6 := k5.trans (k6.mono (by simp))
            exact ⟨rfl, k6, rest, 0, _, hS, hl, hlen', Int.emod_nonneg _ (by decide), Int.emod_lt_of_pos _ (by decide)⟩
          · walk_at "pb"
            exact ⟨rfl, k4, rest, x, m, hS, hl, hlen', hm1, hm2⟩
        · walk_at "pb"
          exact ⟨rfl, k2, rest, _, m, hS, hl, hlen, hm1, hm2⟩
      · walk_at "pb"
        exact ⟨rfl, k1, rest, _, m, hS, hl, hlen, hm1, hm2⟩
    · rintro σ' H' ⟨rfl, k, rest, c, m, hS, hl, hlen, hm1, hm2⟩
      walk_at "pb"
      refine i_ixL (SqL.of hS) rfl ?_
      walk_at "pb"
      refine b_dec (fun hc => ?_) (fun hc => ?_)
      · walk_at "pb"
        refine i_ixL (SqL.of hS) rfl ?_
        walk_at "pb"
        refine i_rI hm0 ?_
        walk_at "pb"
        refine i_ixL (SqL.of hS) rfl ?_
        walk_at "pb"
        refine i_rI ⟨by omega, hmb⟩ ?_
        walk_at "pb"
        refine i_setL hS rfl fun H1 k1 hS => ?_
        replace hl := k1.at_ _ _ (by simpa using hne') hl
        replace k1 : Keep [S, l] H H1 := k.trans (k1.mono (by simp))
        walk_at "pb"
        exact q _ _ k1 ⟨hne, rest, _, m, q0 + 1, by omega, hS, hl, hlen, hm1, hm2⟩ (Int.emod_nonneg _ (by omega)) (Int.emod_lt_of_pos _ hm0)
      · walk_at "pb"
        refine i_ixL (SqL.of hS) rfl ?_
        walk_at "pb"
        refine i_ixL (SqL.of hS) rfl ?_
        refine i_rI (mulW_small (by decide) (by rw [p64]; omega)) ?_
        walk_at "pb"
        refine i_rI ⟨by decide, by decide, by rw [p64]; omega⟩ ?_
        walk_at "pb"
        refine i_rI (by decide) ?_
        generalize hg : (m + 104729 * ((q0 + 1 : Nat) : Int) + 17) ^ (Int.toNat 5) % 2147483629 = g
        have hg1 : 0 ≤ g := by rw [← hg]; exact Int.emod_nonneg _ (by decide)
        have hg2 : g < 2147483629 := by rw [← hg]; exact Int.emod_lt_of_pos _ (by decide)
        walk_at "pb"
        refine i_rI (mulW_small (by rw [p64]; omega) (by decide)) ?_
        walk_at "pb"
        refine i_ixL (SqL.of hS) rfl ?_
        refine i_rI (mulW_small (by decide) (by rw [p64]; omega)) ?_
        walk_at "pb"
        refine i_ixL (SqL.of hS) rfl ?_
        refine i_rI (mulW_small (by rw [p64]; omega) (by rw [p64]; omega)) ?_
        walk_at "pb"
        have hb : (40503 * ((q0 + 1 : Nat) : Int)) * ((q0 + 1 : Nat) : Int) ≤ 40503 * 10000001 * 10000001 := Int.mul_le_mul (by omega) (by omega) (by omega) (by omega)
        have hb0 : 0 ≤ (40503 * ((q0 + 1 : Nat) : Int)) * ((q0 + 1 : Nat) : Int) := Int.mul_nonneg (by omega) (by omega)
        generalize (40503 * ((q0 + 1 : Nat) : Int)) * ((q0 + 1 : Nat) : Int) = b at hb hb0
        refine i_rI ⟨by decide, by decide, by rw [p64]; omega⟩ ?_
        walk_at "pb"
        refine i_rI (by decide) ?_
        walk_at "pb"
        refine i_rI hm0 ?_
        exact q _ _ k ⟨hne, rest, c, m, q0 + 1, by omega, hS, hl, hlen, hm1, hm2⟩ (Int.emod_nonneg _ (by omega)) (Int.emod_lt_of_pos _ hm0)
def spGcd : Sp := fun vs H Q _ => ∃ a b : Int, vs = [.int a, .int b] ∧ Q (.int (Int.gcd a b : Nat)) H
theorem gcd_step (a b : Nat) (hb : b ≠ 0) : Nat.gcd b (a % b) = Nat.gcd a b := by
  rw [Nat.gcd_comm a b, Nat.gcd_rec b a, Nat.gcd_comm]
theorem ok_divisor {P : Program} {w : World} {K : PySem.W.Frag} {mg : Str → Option Value} {base : Heap} (T : Tx K mg) : OkF P w K mg base CX0 1 "divisor" ["first", "second"] [] (spGcd) := by
  obtain ⟨fd, F⟩ := T.d_divisor
  refine ⟨fd, [], F.ok sc_divisor (fun vs H Q E h => ?len) (fun cdv A outer s H vs Q E hr h => ?body), T.g_divisor, F.kp, F.bindsN fun _ _ _ _ _ _ us hl => match us, hl with | [_, _], _ => rfl, .nil⟩
  case len =>
    obtain ⟨a, b, rfl, _⟩ := h
    rfl
  case body =>
    obtain ⟨a, b, rfl, q⟩ := h
    refine ⟨_, PSs.nox (pss_cons (ps_par (i := 0) (j := 1) (by rfl) sc_divisor.nd rfl rfl (by decide) rfl rfl (pa_cons (pe_callB call_abs (by rfl) T.f_abs (by decide +kernel) (pa_cons (pv 0) pa_nil)) (pa_cons (pe_callB call_abs (by rfl) T.f_abs (by decide +kernel) (pa_cons (pv 1) pa_nil)) pa_nil)) (by rfl))
      (pss_cons (ps_while PassesOwn.never (pt_cmpR op_ne (pv 1) pe_int (nomark _)) (pss_one (ps_par (i := 0) (j := 1) (by rfl) sc_divisor.nd rfl rfl (by decide) rfl rfl (pa_cons (pv 1) (pa_cons (pe_op op_mod (pe_callTy call_int1 (by rfl) T.f_int (by decide +kernel) (pa_cons (pv 0) pa_nil)) (pv 1)) pa_nil)) (by rfl))))
      (pss_one (ps_ret (pv 0))))), ?_⟩
    try dsimp only [cxOf, Cx.nox, Cx.wish]
    rw [show ∀ z0 z1 : V, L2.start ["first", "second"] [z0, z1] = [some z0, some z1] from fun _ _ => rfl]
    walk_at "pb"
    rw [abs_e, abs_e]
    refine ⟨fun m σ' H' => ∃ x y : Nat, σ' = [some (.int x), some (.int y)] ∧ m = y ∧ Nat.gcd x y = Int.gcd a b ∧ H' = H, ⟨_, a.natAbs, b.natAbs, rfl, rfl, rfl, rfl⟩, ?_⟩
    rintro m σ' H' ⟨x, y, rfl, rfl, hg, rfl⟩
    walk_at "pb"
    refine b_neI (fun hy => ?_) (fun hy => ?_)
    · refine ⟨fun σ' H'' => ∃ m', m' < m ∧ ∃ x y : Nat, σ' = [some (.int x), some (.int y)] ∧ m' = y ∧ Nat.gcd x y = Int.gcd a b ∧ H'' = H', fun _ _ z => z, ?_⟩
      walk_at "pb"
      have hm : 0 < m := by omega
      refine i_rI (by omega) ?_
      walk_at "pb"
      refine ⟨x % m, Nat.mod_lt _ hm, m, x % m, ?_, rfl, by rw [gcd_step x m (by omega)]; exact hg, rfl⟩
      simp
    · walk_at "pb"
      have hm : m = 0 := by omega
      subst hm
      rw [Nat.gcd_zero_right] at hg
      rw [hg]
      exact q
theorem ok_l_m_divisor {P : Program} {w : World} {K : PySem.W.Frag} {mg : Str → Option Value} {base : Heap} (T : Tx K mg) : OkF P w K mg base CX0 1 "_law_m_divisor" ["_law_one", "_law_other"] [] (spGcd) := by
  obtain ⟨fd, F⟩ := T.d_l_m_divisor
  refine ⟨fd, [], F.ok sc_l_m_divisor (fun vs H Q E h => ?len) (fun cdv A outer s H vs Q E hr h => ?body), T.g_l_m_divisor, F.kp, F.bindsN fun _ _ _ _ _ _ us hl => match us, hl with | [_, _], _ => rfl, .nil⟩
  case len =>
    obtain ⟨a, b, rfl, _⟩ := h
    rfl
  case body =>
    obtain ⟨a, b, rfl, q⟩ := h
    refine ⟨_, PSs.nox (pss_cons (ps_par (i := 0) (j := 1) (by rfl) sc_l_m_divisor.nd rfl rfl (by decide) rfl rfl (pa_cons (pe_callB call_abs (by rfl) T.f_abs (by decide +kernel) (pa_cons (pv 0) pa_nil)) (pa_cons (pe_callB call_abs (by rfl) T.f_abs (by decide +kernel) (pa_cons (pv 1) pa_nil)) pa_nil)) (by rfl))
      (pss_cons (ps_while PassesOwn.never (pt_cmpR op_gt (pv 1) pe_int (nomark _)) (pss_one (ps_par (i := 0) (j := 1) (by rfl) sc_l_m_divisor.nd rfl rfl (by decide) rfl rfl (pa_cons (pv 1) (pa_cons (pe_op op_mod (pe_callTy call_int1 (by rfl) T.f_int (by decide +kernel) (pa_cons (pv 0) pa_nil)) (pv 1)) pa_nil)) (by rfl))))
      (pss_one (ps_ret (pv 0))))), ?_⟩
    try dsimp only [cxOf, Cx.nox, Cx.wish]
    rw [show ∀ z0 z1 : V, L2.start ["_law_one", "_law_other"] [z0, z1] = [some z0, some z1] from fun _ _ => rfl]
    walk_at "pb"
    rw [abs_e, abs_e]
    refine ⟨fun m σ' H' => ∃ x y : Nat, σ' = [some (.int x), some (.int y)] ∧ m = y ∧ Nat.gcd x y = Int.gcd a b ∧ H' = H, ⟨_, a.natAbs, b.natAbs, rfl, rfl, rfl, rfl⟩, ?_⟩
    rintro m σ' H' ⟨x, y, rfl, rfl, hg, rfl⟩
    walk_at "pb"
    refine b_dec (fun hy => ?_) (fun hy => ?_)
    · refine ⟨fun σ' H'' => ∃ m', m' < m ∧ ∃ x y : Nat, σ' = [some (.int x), some (.int y)] ∧ m' = y ∧ Nat.gcd x y = Int.gcd a b ∧ H'' = H', fun _ _ z => z, ?_⟩
      walk_at "pb"
      have hm : 0 < m := by omega
      refine i_rI (by omega) ?_
      walk_at "pb"
      refine ⟨x % m, Nat.mod_lt _ hm, m, x % m, ?_, rfl, by rw [gcd_step x m (by omega)]; exact hg, rfl⟩
      simp
    · walk_at "pb"
      have hm : m = 0 := by omega
      subst hm
      rw [Nat.gcd_zero_right] at hg
      rw [hg]
      exact q
abbrev rf (t b : Int) : List (Str × V) := [("top", .int t), ("bottom", .int b)]
def IsR (K : PySem.W.Frag) (H : Hp) (v : V) (t b : Int) : Prop := ∃ a dx, v = .ref a ∧ H a = some (.ins (He.ga K "Ratio") dx (rf t b))
theorem IsR.keep {K : PySem.W.Frag} {H H' : Hp} {v : V} {t b : Int} (h : IsR K H v t b) (k : Keep [] H H') : IsR K H' v t b := let ⟨a, dx, e, ha⟩ := h; ⟨a, dx, e, k.at_ _ _ (by simp) ha⟩
def FrV (K : PySem.W.Frag) (H : Hp) (v : V) (t b : Int) : Prop := IsR K H v t b ∨ (v = .int t ∧ b = 1)
theorem FrV.keep {K : PySem.W.Frag} {H H' : Hp} {v : V} {t b : Int} (h : FrV K H v t b) (k : Keep [] H H') : FrV K H' v t b := h.elim (fun h => .inl (h.keep k)) .inr
def spFraction (K : PySem.W.Frag) : Sp := fun vs H Q _ => ∃ v t b, vs = [v] ∧ FrV K H v t b ∧ ∀ p H', Keep [] H H' → H' p = some (.tup [.int t, .int b]) → Q (.ref p) H'
theorem ok_fraction {P : Program} {w : World} {K : PySem.W.Frag} {mg : Str → Option Value} {base : Heap} (T : Tx K mg) : OkF P w K mg base CX0 1 "fraction" ["value"] [] ((spFraction K)) := by
  obtain ⟨fd, F⟩ := T.d_fraction
  refine ⟨fd, [], F.ok sc_fraction (fun vs H Q E h => ?len) (fun cdv A outer s H vs Q E hr h => ?body), T.g_fraction, F.kp, F.bindsN fun _ _ _ _ _ _ us hl => match us, hl with | [_], _ => rfl, .nil⟩
  case len =>
    obtain ⟨v, t, b, rfl, _⟩ := h
    rfl
  case body =>
    obtain ⟨v, t, b, rfl, hv, q⟩ := h
    refine ⟨_, PSs.nox (pss_cons (ps_if (pt_val (pe_callB call_isi (by rfl) T.f_isinstance (by decide +kernel) (pa_cons (pv 0) (pa_cons (pe_glob (v := .ref (He.ga K "Ratio")) (by rfl) T.g_Ratio rfl) pa_nil)))) (pss_one (ps_ret (pe_tup (pa_cons (pe_fld (pv 0) rfl) (pa_cons (pe_fld (pv 0) rfl) pa_nil))))) pss_nil)
      (pss_one (ps_ret (pe_tup (pa_cons (pv 0) (pa_cons pe_int pa_nil)))))), ?_⟩
    try dsimp only [cxOf, Cx.nox, Cx.wish]
    rw [show ∀ z0 : V, L2.start ["value"] [z0] = [some z0] from fun _ => rfl]
    walk_at "pb"
    rcases hv with ⟨a, dx, rfl, ha⟩ | ⟨rfl, rfl⟩
    · refine i_isi_own T.isi_Ratio ha ?_
      walk_at "pb"
      refine i_fldR ha T.cls_Ratio T.noat_Ratio_top rfl ?_
      walk_at "pb"
      refine i_fldR ha T.cls_Ratio T.noat_Ratio_bottom rfl ?_
      walk_at "pb"
      exact i_tupR (by walk_at "sz") fun p H' _ k hp => q p H' k hp
    · refine i_isi_intOwn T.isi_Ratio ?_
      walk_at "pb"
      exact i_tupR (by walk_at "sz") fun p H' _ k hp => q p H' k hp
/-- t over b is p over q in lowest terms -/
structure Red (p q t b : Int) : Prop where
  pos : 0 < b
  low : Int.gcd t b = 1
  eq : t * q = p * b
theorem Red.sb {p q t b : Int} (h : Red p q t b) (hq : q ≠ 0) : b.natAbs ≤ q.natAbs := by
  have e : t.natAbs * q.natAbs = p.natAbs * b.natAbs := by rw [← Int.natAbs_mul, ← Int.natAbs_mul, h.eq]
  have c : Nat.Coprime b.natAbs t.natAbs := by rw [Nat.coprime_comm]; exact h.low
  exact Nat.le_of_dvd (by omega) (c.dvd_of_dvd_mul_left ⟨p.natAbs, by rw [e, Nat.mul_comm]⟩)
theorem Red.st {p q t b : Int} (h : Red p q t b) (hq : q ≠ 0) : t.natAbs ≤ p.natAbs := by
  have e : t.natAbs * q.natAbs = p.natAbs * b.natAbs := by rw [← Int.natAbs_mul, ← Int.natAbs_mul, h.eq]
  rcases Nat.eq_zero_or_pos p.natAbs with hp | hp
  · rw [hp, Nat.zero_mul] at e
    rcases Nat.mul_eq_zero.mp e with z | z <;> omega
  · have c : Nat.Coprime t.natAbs b.natAbs := h.low
    exact Nat.le_of_dvd hp (c.dvd_of_dvd_mul_right ⟨q.natAbs, e.symm⟩)
theorem red_of {p q c : Int} (hq : q ≠ 0) (hc : c.natAbs = Int.gcd p q) (hs : (q < 0 → c ≤ 0) ∧ (¬ q < 0 → 0 ≤ c)) : c ≠ 0 ∧ Red p q (p.fdiv c) (q.fdiv c) := by
  have hg : 0 < Int.gcd p q := Int.gcd_pos_of_ne_zero_right p hq
  have hc0 : c ≠ 0 := by omega
  have d1 : c ∣ p := Int.natAbs_dvd.mp (by rw [hc]; exact Int.gcd_dvd_left ..)
  have d2 : c ∣ q := Int.natAbs_dvd.mp (by rw [hc]; exact Int.gcd_dvd_right ..)
  have e1 : p.fdiv c * c = p := Int.fdiv_mul_cancel d1
  have e2 : q.fdiv c * c = q := Int.fdiv_mul_cancel d2
  generalize p.fdiv c = t at e1
  generalize q.fdiv c = b at e2
  have hb : 0 < b := by
    rcases Int.lt_or_gt_of_ne hq with h | h
    · have h1 := hs.1 h
      rcases Int.lt_trichotomy b 0 with hb | hb | hb
      · have := Int.mul_nonneg_of_nonpos_of_nonpos (Int.le_of_lt hb) h1
        omega
      · subst hb
        omega
      · exact hb
    · have h1 := hs.2 (by omega)
      rcases Int.lt_trichotomy b 0 with hb | hb | hb
      · have := Int.mul_nonpos_of_nonpos_of_nonneg (Int.le_of_lt hb) h1
        omega
      · subst hb
        omega
      · exact hb
  refine ⟨hc0, hb, ?_, ?_⟩
  · have e3 : Int.gcd p q = Int.gcd t b * c.natAbs := by rw [← e1, ← e2, Int.gcd_mul_right]
    rw [hc] at e3
    have e4 : 1 * Int.gcd p q = Int.gcd t b * Int.gcd p q := by omega
    exact (Nat.eq_of_mul_eq_mul_right hg e4).symm
  · rw [← e1, ← e2, Int.mul_assoc, Int.mul_comm b c]
def spInit (K : PySem.W.Frag) : Sp := fun vs H Q E => ∃ (x dx : Addr) (p q : Int), vs = [.ref x, .int p, .int q] ∧ H x = some (.ins (He.ga K "Ratio") dx []) ∧ p.natAbs < 2 ^ 8000 ∧ q.natAbs < 2 ^ 8000 ∧ (q = 0 → E (.type "ZeroDivisionError") none H) ∧
  (q ≠ 0 → ∀ H' t b, Keep [x] H H' → H' x = some (.ins (He.ga K "Ratio") dx (rf t b)) → Red p q t b → Q .non H')
theorem pow_mono {n a b : Nat} (h : n < 2 ^ a) (hab : a ≤ b) : n < 2 ^ b := Nat.lt_of_lt_of_le h (Nat.pow_le_pow_right (by decide) hab)
theorem ok_Ratio_DinitD {P : Program} {w : World} {K : PySem.W.Frag} {mg : Str → Option Value} {base : Heap} (T : Tx K mg) : ∃ fd, FnOk P w K mg base (L2.CX P w) 2 (He.ma K (He.ga K "Ratio") "__init__") fd ["self", "top", "bottom"] ((spInit K)) ∧ FunD K "__init__" "Ratio.__init__" (defArgs (inClass (topS 4) 0)) (defBody (inClass (topS 4) 0)) (defScope (inClass (topS 4) 0)) [V.int 1] [] (He.ma K (He.ga K "Ratio") "__init__") fd := by
  obtain ⟨fd, F⟩ := T.d_Ratio_DinitD
  refine ⟨fd, F.ok sc_Ratio_DinitD (fun vs H Q E h => ?len) (fun cdv A outer s H vs Q E hr h => ?body), F⟩
  case len =>
    obtain ⟨x, dx, p, q, rfl, _⟩ := h
    rfl
  case body =>
    have O_divisor := ok_divisor (P := P) (w := w) (base := base) T
    obtain ⟨x, dx, p, q, rfl, hx, hp, hq, h0, h1⟩ := h
    refine ⟨_, (pss_cons (ps_if (pt_cmpR op_eq (pv 2) pe_int (nomark _)) (pss_one (ps_raiseB rfl (takes_of rfl rfl rfl rfl) exb_ZeroDivisionError (by rfl) T.f_ZeroDivisionError boot_ZeroDivisionError)) pss_nil)
      (pss_cons (ps_set (i := 3) sc_Ratio_DinitD.nd rfl (Or.inl rfl) (PB.pe_callF O_divisor (hr.mono (by decide)) pas0 (pa_cons (pv 1) (pa_cons (pv 2) pa_nil))))
      (C8.pss_cut (ps_if (pt_cmpR op_lt (pv 2) pe_int (nomark _)) (pss_one (ps_set (i := 3) sc_Ratio_DinitD.nd rfl (Or.inl rfl) (pe_un un_neg (pv 3)))) pss_nil)
      (pss_cons (ps_fld (pv 0) (pe_op PB.op_fdivG (pv 1) (pv 3)) rfl)
      (pss_one (ps_fld (pv 0) (pe_op PB.op_fdivG (pv 2) (pv 3)) rfl)))))), ?_⟩
    try dsimp only [cxOf, Cx.nox, Cx.wish]
    rw [show ∀ z0 z1 z2 : V, L2.start ["self", "top", "bottom", "common"] [z0, z1, z2] = [some z0, some z1, some z2, none] from fun _ _ _ => rfl]
    walk_at "pb"
    refine b_eqI (fun hz => ?_) (fun hz => ?_)
    · exact h0 hz
    · walk_at "pb"
      refine ⟨p, q, rfl, ?_⟩
      walk_at "pb"
      refine i_cut (fun σ' H' => H' = H ∧ ∃ c : Int, σ' = [some (.ref x), some (.int p), some (.int q), some (.int c)] ∧ c.natAbs = Int.gcd p q ∧ (q < 0 → c ≤ 0) ∧ (¬ q < 0 → 0 ≤ c)) ?_ ?_
      · walk_at "pb"
        refine b_dec (fun hn => ?_) (fun hn => ?_)
        · walk_at "pb"
          exact ⟨rfl, _, rfl, by omega, by omega, by omega⟩
        · walk_at "pb"
          exact ⟨rfl, _, rfl, by omega, by omega, by omega⟩
      · rintro σ' H' ⟨rfl, c, rfl, hc, hs⟩
        obtain ⟨hc0, hr⟩ := red_of hz hc hs
        have hcb : c.natAbs < 2 ^ 9000 := by
          rw [hc]
          refine pow_mono (Nat.lt_of_le_of_lt ?_ hq) (by decide)
          exact Nat.le_of_dvd (by omega) (Int.natCast_dvd_natCast.mp (by rw [Int.dvd_natAbs]; exact Int.gcd_dvd_right ..))
        walk_at "pb"
        refine i_rI ⟨hc0, hcb⟩ ?_
        walk_at "pb"
        refine i_sfldR hx T.cls_Ratio T.noat_Ratio_top (by decide) fun H1 k1 hx1 => ?_
        walk_at "pb"
        refine i_rI ⟨hc0, hcb⟩ ?_
        walk_at "pb"
        refine i_sfldR hx1 T.cls_Ratio T.noat_Ratio_bottom (show 1 < 1000 by decide) fun H2 k2 hx2 => ?_
        exact h1 hz _ _ _ (k1.trans k2) hx2 hr
theorem ok_Ratio_DinitD_1 {P : Program} {w : World} {K : PySem.W.Frag} {mg : Str → Option Value} {base : Heap} (T : Tx K mg) : OkC P w K mg base (L2.CX P w) 2 "Ratio" ["self", "top", "bottom"] [V.int 1] ((spInit K)) := by
  obtain ⟨fd, G, F⟩ := ok_Ratio_DinitD (P := P) (w := w) (base := base) T
  obtain ⟨ds, hv, hb⟩ := F.binds1 (ps := ["self", "top", "bottom"]) 2 0 (by simp) rfl fun _ _ _ _ _ _ _ us its hl hi => match us, its, hl, hi with | [_, _], [_], _, _ => ⟨_, rfl, rfl⟩
  exact ⟨fd, ds, G, T.g_Ratio, T.mk_Ratio, hb, hv⟩
theorem ok_Ratio_DinitD_all {P : Program} {w : World} {K : PySem.W.Frag} {mg : Str → Option Value} {base : Heap} (T : Tx K mg) : OkC P w K mg base (L2.CX P w) 2 "Ratio" ["self", "top", "bottom"] [] ((spInit K)) := by
  obtain ⟨fd, G, F⟩ := ok_Ratio_DinitD (P := P) (w := w) (base := base) T
  obtain ⟨ds, hv, hb⟩ := F.binds1 (ps := ["self", "top", "bottom"]) 3 1 (by simp) rfl fun _ _ _ _ _ _ _ us its hl hi => match us, its, hl, hi with | [_, _, _], [_], _, _ => ⟨_, rfl, rfl⟩
  exact ⟨fd, ds, G, T.g_Ratio, T.mk_Ratio, hb, hv⟩
/-- a Ratio is made of p over q -/
theorem use_make {K : PySem.W.Frag} {E : XK} {H : Hp} {Q : VK} {p q : Int} (hz : q ≠ 0) (s1 : p.natAbs < 2 ^ 8000) (s2 : q.natAbs < 2 ^ 8000)
    (h : ∀ a dx H' t b, H a = none → Keep [] H H' → H' a = some (.ins (He.ga K "Ratio") dx (rf t b)) → Red p q t b → Q (.ref a) H') : NewI (He.ga K "Ratio") (spInit K) [.int p, .int q] E H Q := by
  refine i_newI fun x dx H1 hx k1 hx1 => ?_
  refine ⟨x, dx, p, q, rfl, hx1, s1, s2, fun z => absurd z hz, fun _ H2 t b k2 hx2 hr => ⟨rfl, ?_⟩⟩
  exact h x dx H2 t b hx (k1.fresh1 hx k2) hx2 hr
def fAdd (t b u d : Int) : Int × Int := (t * d + u * b, b * d)
def fSub (t b u d : Int) : Int × Int := (t * d - u * b, b * d)
def fMul (t b u d : Int) : Int × Int := (t * u, b * d)
def fRsub (t b u d : Int) : Int × Int := (u * b - t * d, b * d)
/-- self op other gives the Ratio of F -/
def spBin (K : PySem.W.Frag) (F : Int → Int → Int → Int → Int × Int) : Sp := fun vs H Q _ => ∃ (x v : V) (t b u d : Int) , vs = [x, v] ∧ IsR K H x t b ∧ FrV K H v u d ∧ t.natAbs < 2 ^ 1000 ∧ b.natAbs < 2 ^ 1000 ∧ u.natAbs < 2 ^ 1000 ∧ d.natAbs < 2 ^ 1000 ∧ b ≠ 0 ∧ d ≠ 0 ∧
  ∀ a dx H' t' b', H a = none → Keep [] H H' → H' a = some (.ins (He.ga K "Ratio") dx (rf t' b')) → Red (F t b u d).1 (F t b u d).2 t' b' → Q (.ref a) H'
theorem mul2 {i j : Int} (hi : i.natAbs < 2 ^ 1000) (hj : j.natAbs < 2 ^ 1000) : CMulW i j := wide_mul hi hj (by decide) (by decide) (by decide)
theorem mul2_lt {i j : Int} (hi : i.natAbs < 2 ^ 1000) (hj : j.natAbs < 2 ^ 1000) : (i * j).natAbs < 2 ^ 2000 := wide_lt hi hj
theorem add_lt {i j : Int} {n : Nat} (hi : i.natAbs < 2 ^ n) (hj : j.natAbs < 2 ^ n) : (i + j).natAbs < 2 ^ (n + 1) := by
  rw [Nat.pow_succ]
  omega
theorem sub_lt {i j : Int} {n : Nat} (hi : i.natAbs < 2 ^ n) (hj : j.natAbs < 2 ^ n) : (i - j).natAbs < 2 ^ (n + 1) := by
  rw [Nat.pow_succ]
  omega
theorem ok_Ratio_DaddD {P : Program} {w : World} {K : PySem.W.Frag} {mg : Str → Option Value} {base : Heap} (T : Tx K mg) : OkM P w K mg base CX0 4 "Ratio" "__add__" ["self", "other"] [] ((spBin K fAdd)) := by
  obtain ⟨fd, F⟩ := T.d_Ratio_DaddD
  refine ⟨fd, [], F.ok sc_Ratio_DaddD (fun vs H Q E h => ?len) (fun cdv A outer s H vs Q E hr h => ?body), T.cls_Ratio, T.meth_Ratio_DaddD, F.bindsN fun _ _ _ _ _ _ us hl => match us, hl with | [_, _], _ => rfl, .nil⟩
  case len =>
    obtain ⟨x, v, t, b, u, d, rfl, _⟩ := h
    rfl
  case body =>
    have O_fraction := ok_fraction (P := P) (w := w) (base := base) T
    have O_Ratio := ok_Ratio_DinitD_all (P := P) (w := w) (base := base) T
    obtain ⟨x, v, t, b, u, d, rfl, hx, hv, st, sb, su, sd, hb, hd, q⟩ := h
    obtain ⟨ax, dx, rfl, hx⟩ := hx
    refine ⟨_, PSs.nox (pss_cons (ps_asg (PB.pe_callF O_fraction (hr.mono (by decide)) pas0 (pa_cons (pv 1) pa_nil)) (pg_tup rfl (pgs_cons (pg_name (i := 2) sc_Ratio_DaddD.nd rfl (Or.inl rfl)) (pgs_cons (pg_name (i := 3) sc_Ratio_DaddD.nd rfl (Or.inl rfl)) pgs_nil))))
      (pss_one (ps_ret (PB.pe_makeF O_Ratio (hr.mono (by decide)) (pasT takes0) (pa_cons (pe_op op_add (pe_op op_mulW (pe_fld (pv 0) rfl) (pv 3)) (pe_op op_mulW (pv 2) (pe_fld (pv 0) rfl))) (pa_cons (pe_op op_mulW (pe_fld (pv 0) rfl) (pv 3)) pa_nil)))))), ?_⟩
    try dsimp only [cxOf, Cx.nox, Cx.wish]
    rw [show ∀ z0 z1 : V, L2.start ["self", "other", "top", "bottom"] [z0, z1] = [some z0, some z1, none, none] from fun _ _ => rfl]
    walk_at "pb"
    refine ⟨v, u, d, rfl, hv, fun p H1 k1 hp => ?_⟩
    replace hx := k1.at_ _ _ (by simp) hx
    refine i_gtup (SqT.of hp) rfl ?_
    walk_at "pb"
    refine i_fldR hx T.cls_Ratio T.noat_Ratio_top rfl ?_
    walk_at "pb"
    refine i_rI (mul2 st sd) ?_
    walk_at "pb"
    refine i_fldR hx T.cls_Ratio T.noat_Ratio_bottom rfl ?_
    refine i_rI (mul2 su sb) ?_
    walk_at "pb"
    refine i_fldR hx T.cls_Ratio T.noat_Ratio_bottom rfl ?_
    walk_at "pb"
    refine i_rI (mul2 sb sd) ?_
    walk_at "pb"
    refine use_make (Int.mul_ne_zero hb hd) (pow_mono (add_lt (mul2_lt st sd) (mul2_lt su sb)) (by decide)) (pow_mono (mul2_lt sb sd) (by decide)) fun a dx' H2 t' b' ha k2 h2 hr => ?_
    exact q a dx' H2 t' b' (k1.free (by simp) ha) (k1.trans k2) h2 hr
theorem ok_Ratio_DsubD {P : Program} {w : World} {K : PySem.W.Frag} {mg : Str → Option Value} {base : Heap} (T : Tx K mg) : OkM P w K mg base CX0 4 "Ratio" "__sub__" ["self", "other"] [] ((spBin K fSub)) := by
  obtain ⟨fd, F⟩ := T.d_Ratio_DsubD
  refine ⟨fd, [], F.ok sc_Ratio_DsubD (fun vs H Q E h => ?len) (fun cdv A outer s H vs Q E hr h => ?body), T.cls_Ratio, T.meth_Ratio_DsubD, F.bindsN fun _ _ _ _ _ _ us hl => match us, hl with | [_, _], _ => rfl, .nil⟩
  case len =>
    obtain ⟨x, v, t, b, u, d, rfl, _⟩ := h
    rfl
  case body =>
    have O_fraction := ok_fraction (P := P) (w := w) (base := base) T
    have O_Ratio := ok_Ratio_DinitD_all (P := P) (w := w) (base := base) T
    obtain ⟨x, v, t, b, u, d, rfl, hx, hv, st, sb, su, sd, hb, hd, q⟩ := h
    obtain ⟨ax, dx, rfl, hx⟩ := hx
    refine ⟨_, PSs.nox (pss_cons (ps_asg (PB.pe_callF O_fraction (hr.mono (by decide)) pas0 (pa_cons (pv 1) pa_nil)) (pg_tup rfl (pgs_cons (pg_name (i := 2) sc_Ratio_DsubD.nd rfl (Or.inl rfl)) (pgs_cons (pg_name (i := 3) sc_Ratio_DsubD.nd rfl (Or.inl rfl)) pgs_nil))))
      (pss_one (ps_ret (PB.pe_makeF O_Ratio (hr.mono (by decide)) (pasT takes0) (pa_cons (pe_op op_sub (pe_op op_mulW (pe_fld (pv 0) rfl) (pv 3)) (pe_op op_mulW (pv 2) (pe_fld (pv 0) rfl))) (pa_cons (pe_op op_mulW (pe_fld (pv 0) rfl) (pv 3)) pa_nil)))))), ?_⟩
    try dsimp only [cxOf, Cx.nox, Cx.wish]
    rw [show ∀ z0 z1 : V, L2.start ["self", "other", "top", "bottom"] [z0, z1] = [some z0, some z1, none, none] from fun _ _ => rfl]
    walk_at "pb"
    refine ⟨v, u, d, rfl, hv, fun p H1 k1 hp => ?_⟩
    replace hx := k1.at_ _ _ (by simp) hx
    refine i_gtup (SqT.of hp) rfl ?_
    walk_at "pb"
    refine i_fldR hx T.cls_Ratio T.noat_Ratio_top rfl ?_
    walk_at "pb"
    refine i_rI (mul2 st sd) ?_
    walk_at "pb"
    refine i_fldR hx T.cls_Ratio T.noat_Ratio_bottom rfl ?_
    refine i_rI (mul2 su sb) ?_
    walk_at "pb"
    refine i_fldR hx T.cls_Ratio T.noat_Ratio_bottom rfl ?_
    walk_at "pb"
    refine i_rI (mul2 sb sd) ?_
    walk_at "pb"
    refine use_make (Int.mul_ne_zero hb hd) (pow_mono (sub_lt (mul2_lt st sd) (mul2_lt su sb)) (by decide)) (pow_mono (mul2_lt sb sd) (by decide)) fun a dx' H2 t' b' ha k2 h2 hr => ?_
    exact q a dx' H2 t' b' (k1.free (by simp) ha) (k1.trans k2) h2 hr
theorem ok_Ratio_DmulD {P : Program} {w : World} {K : PySem.W.Frag} {mg : Str → Option Value} {base : Heap} (T : Tx K mg) : OkM P w K mg base CX0 4 "Ratio" "__mul__" ["self", "other"] [] ((spBin K fMul)) := by
  obtain ⟨fd, F⟩ := T.d_Ratio_DmulD
  refine ⟨fd, [], F.ok sc_Ratio_DmulD (fun vs H Q E h => ?len) (fun cdv A outer s H vs Q E hr h => ?body), T.cls_Ratio, T.meth_Ratio_DmulD, F.bindsN fun _ _ _ _ _ _ us hl => match us, hl with | [_, _], _ => rfl, .nil⟩
  case len =>
    obtain ⟨x, v, t, b, u, d, rfl, _⟩ := h
    rfl
  case body =>
    have O_fraction := ok_fraction (P := P) (w := w) (base := base) T
    have O_Ratio := ok_Ratio_DinitD_all (P := P) (w := w) (base := base) T
    obtain ⟨x, v, t, b, u, d, rfl, hx, hv, st, sb, su, sd, hb, hd, q⟩ := h
    obtain ⟨ax, dx, rfl, hx⟩ := hx
    refine ⟨_, PSs.nox (pss_cons (ps_asg (PB.pe_callF O_fraction (hr.mono (by decide)) pas0 (pa_cons (pv 1) pa_nil)) (pg_tup rfl (pgs_cons (pg_name (i := 2) sc_Ratio_DmulD.nd rfl (Or.inl rfl)) (pgs_cons (pg_name (i := 3) sc_Ratio_DmulD.nd rfl (Or.inl rfl)) pgs_nil))))
      (pss_one (ps_ret (PB.pe_makeF O_Ratio (hr.mono (by decide)) (pasT takes0) (pa_cons (pe_op op_mulW (pe_fld (pv 0) rfl) (pv 2)) (pa_cons (pe_op op_mulW (pe_fld (pv 0) rfl) (pv 3)) pa_nil)))))), ?_⟩
    try dsimp only [cxOf, Cx.nox, Cx.wish]
    rw [show ∀ z0 z1 : V, L2.start ["self", "other", "top", "bottom"] [z0, z1] = [some z0, some z1, none, none] from fun _ _ => rfl]
    walk_at "pb"
    refine ⟨v, u, d, rfl, hv, fun p H1 k1 hp => ?_⟩
    replace hx := k1.at_ _ _ (by simp) hx
    refine i_gtup (SqT.of hp) rfl ?_
    walk_at "pb"
    refine i_fldR hx T.cls_Ratio T.noat_Ratio_top rfl ?_
    walk_at "pb"
    refine i_rI (mul2 st su) ?_
    walk_at "pb"
    refine i_fldR hx T.cls_Ratio T.noat_Ratio_bottom rfl ?_
    walk_at "pb"
    refine i_rI (mul2 sb sd) ?_
    walk_at "pb"
    refine use_make (Int.mul_ne_zero hb hd) (pow_mono (mul2_lt st su) (by decide)) (pow_mono (mul2_lt sb sd) (by decide)) fun a dx' H2 t' b' ha k2 h2 hr => ?_
    exact q a dx' H2 t' b' (k1.free (by simp) ha) (k1.trans k2) h2 hr
theorem ok_Ratio_DraddD {P : Program} {w : World} {K : PySem.W.Frag} {mg : Str → Option Value} {base : Heap} (T : Tx K mg) : OkM P w K mg base CX0 5 "Ratio" "__radd__" ["self", "other"] [] ((spBin K fAdd)) := by
  obtain ⟨fd, F⟩ := T.d_Ratio_DraddD
  refine ⟨fd, [], F.ok sc_Ratio_DraddD (fun vs H Q E h => ?len) (fun cdv A outer s H vs Q E hr h => ?body), T.cls_Ratio, T.meth_Ratio_DraddD, F.bindsN fun _ _ _ _ _ _ us hl => match us, hl with | [_, _], _ => rfl, .nil⟩
  case len =>
    obtain ⟨x, v, t, b, u, d, rfl, _⟩ := h
    rfl
  case body =>
    have O_Ratio_DaddD := ok_Ratio_DaddD (P := P) (w := w) (base := base) T
    obtain ⟨x, v, t, b, u, d, rfl, hx, hv, st, sb, su, sd, hb, hd, q⟩ := h
    refine ⟨_, PSs.nox (pss_one (ps_ret (pe_opS (op_own O_Ratio_DaddD T.own_Ratio (rv_meth T.meth_Ratio_DraddD) (hr.mono (by decide)) pas0 PySem.F.fills_int_add tk_add) (pv 0) (pv 1)))), ?_⟩
    try dsimp only [cxOf, Cx.nox, Cx.wish]
    rw [show ∀ z0 z1 : V, L2.start ["self", "other"] [z0, z1] = [some z0, some z1] from fun _ _ => rfl]
    have hx' := hx
    obtain ⟨ax, dx, rfl, hx'⟩ := hx'
    walk_at "pb"
    rcases hv with hv | ⟨rfl, rfl⟩
    · have hv' := hv
      obtain ⟨av, dv, rfl, hv'⟩ := hv'
      exact i_own hx' hv' ⟨_, _, t, b, u, d, rfl, hx, .inl hv, st, sb, su, sd, hb, hd, q⟩
    · exact i_ownI hx' ⟨_, _, t, b, u, 1, rfl, hx, .inr ⟨rfl, rfl⟩, st, sb, su, sd, hb, hd, q⟩
theorem ok_Ratio_DrmulD {P : Program} {w : World} {K : PySem.W.Frag} {mg : Str → Option Value} {base : Heap} (T : Tx K mg) : OkM P w K mg base CX0 5 "Ratio" "__rmul__" ["self", "other"] [] ((spBin K fMul)) := by
  obtain ⟨fd, F⟩ := T.d_Ratio_DrmulD
  refine ⟨fd, [], F.ok sc_Ratio_DrmulD (fun vs H Q E h => ?len) (fun cdv A outer s H vs Q E hr h => ?body), T.cls_Ratio, T.meth_Ratio_DrmulD, F.bindsN fun _ _ _ _ _ _ us hl => match us, hl with | [_, _], _ => rfl, .nil⟩
  case len =>
    obtain ⟨x, v, t, b, u, d, rfl, _⟩ := h
    rfl
  case body =>
    have O_Ratio_DmulD := ok_Ratio_DmulD (P := P) (w := w) (base := base) T
    obtain ⟨x, v, t, b, u, d, rfl, hx, hv, st, sb, su, sd, hb, hd, q⟩ := h
    refine ⟨_, PSs.nox (pss_one (ps_ret (pe_opS (op_own O_Ratio_DmulD T.own_Ratio (rv_meth T.meth_Ratio_DrmulD) (hr.mono (by decide)) pas0 PySem.F.fills_int_mul tk_mul) (pv 0) (pv 1)))), ?_⟩
    try dsimp only [cxOf, Cx.nox, Cx.wish]
    rw [show ∀ z0 z1 : V, L2.start ["self", "other"] [z0, z1] = [some z0, some z1] from fun _ _ => rfl]
    have hx' := hx
    obtain ⟨ax, dx, rfl, hx'⟩ := hx'
    walk_at "pb"
    rcases hv with hv | ⟨rfl, rfl⟩
    · have hv' := hv
      obtain ⟨av, dv, rfl, hv'⟩ := hv'
      exact i_own hx' hv' ⟨_, _, t, b, u, d, rfl, hx, .inl hv, st, sb, su, sd, hb, hd, q⟩
    · exact i_ownI hx' ⟨_, _, t, b, u, 1, rfl, hx, .inr ⟨rfl, rfl⟩, st, sb, su, sd, hb, hd, q⟩
def fNeg (t b : Int) : Int × Int := (-t, b)
def fAbs (t b : Int) : Int × Int := (if t < 0 then -t else t, b)
def spUn (K : PySem.W.Frag) (F : Int → Int → Int × Int) : Sp := fun vs H Q _ => ∃ (x : V) (t b : Int) , vs = [x] ∧ IsR K H x t b ∧ t.natAbs < 2 ^ 1000 ∧ b.natAbs < 2 ^ 1000 ∧ b ≠ 0 ∧
  ∀ a dx H' t' b', H a = none → Keep [] H H' → H' a = some (.ins (He.ga K "Ratio") dx (rf t' b')) → Red (F t b).1 (F t b).2 t' b' → Q (.ref a) H'
theorem ok_Ratio_DnegD {P : Program} {w : World} {K : PySem.W.Frag} {mg : Str → Option Value} {base : Heap} (T : Tx K mg) : OkM P w K mg base CX0 4 "Ratio" "__neg__" ["self"] [] ((spUn K fNeg)) := by
  obtain ⟨fd, F⟩ := T.d_Ratio_DnegD
  refine ⟨fd, [], F.ok sc_Ratio_DnegD (fun vs H Q E h => ?len) (fun cdv A outer s H vs Q E hr h => ?body), T.cls_Ratio, T.meth_Ratio_DnegD, F.bindsN fun _ _ _ _ _ _ us hl => match us, hl with | [_], _ => rfl, .nil⟩
  case len =>
    obtain ⟨x, t, b, rfl, _⟩ := h
    rfl
  case body =>
    have O_Ratio := ok_Ratio_DinitD_all (P := P) (w := w) (base := base) T
    obtain ⟨x, t, b, rfl, ⟨ax, dx, rfl, hx⟩, st, sb, hb, q⟩ := h
    refine ⟨_, PSs.nox (pss_one (ps_ret (PB.pe_makeF O_Ratio (hr.mono (by decide)) (pasT takes0) (pa_cons (pe_un un_neg (pe_fld (pv 0) rfl)) (pa_cons (pe_fld (pv 0) rfl) pa_nil))))), ?_⟩
    try dsimp only [cxOf, Cx.nox, Cx.wish]
    rw [show ∀ z0 : V, L2.start ["self"] [z0] = [some z0] from fun _ => rfl]
    walk_at "pb"
    refine i_fldR hx T.cls_Ratio T.noat_Ratio_top rfl ?_
    walk_at "pb"
    refine i_fldR hx T.cls_Ratio T.noat_Ratio_bottom rfl ?_
    walk_at "pb"
    exact use_make hb (pow_mono (show (-t).natAbs < 2 ^ 1000 by rw [Int.natAbs_neg]; exact st) (by decide)) (pow_mono sb (by decide)) q
theorem ok_Ratio_DabsD {P : Program} {w : World} {K : PySem.W.Frag} {mg : Str → Option Value} {base : Heap} (T : Tx K mg) : OkM P w K mg base CX0 4 "Ratio" "__abs__" ["self"] [] ((spUn K fAbs)) := by
  obtain ⟨fd, F⟩ := T.d_Ratio_DabsD
  refine ⟨fd, [], F.ok sc_Ratio_DabsD (fun vs H Q E h => ?len) (fun cdv A outer s H vs Q E hr h => ?body), T.cls_Ratio, T.meth_Ratio_DabsD, F.bindsN fun _ _ _ _ _ _ us hl => match us, hl with | [_], _ => rfl, .nil⟩
  case len =>
    obtain ⟨x, t, b, rfl, _⟩ := h
    rfl
  case body =>
    have O_Ratio := ok_Ratio_DinitD_all (P := P) (w := w) (base := base) T
    obtain ⟨x, t, b, rfl, ⟨ax, dx, rfl, hx⟩, st, sb, hb, q⟩ := h
    refine ⟨_, PSs.nox (pss_one (ps_ret (PB.pe_makeF O_Ratio (hr.mono (by decide)) (pasT takes0) (pa_cons (pe_callB call_abs (by rfl) T.f_abs (by decide +kernel) (pa_cons (pe_fld (pv 0) rfl) pa_nil)) (pa_cons (pe_fld (pv 0) rfl) pa_nil))))), ?_⟩
    try dsimp only [cxOf, Cx.nox, Cx.wish]
    rw [show ∀ z0 : V, L2.start ["self"] [z0] = [some z0] from fun _ => rfl]
    walk_at "pb"
    refine i_fldR hx T.cls_Ratio T.noat_Ratio_top rfl ?_
    walk_at "pb"
    refine i_fldR hx T.cls_Ratio T.noat_Ratio_bottom rfl ?_
    walk_at "pb"
    refine use_make hb (pow_mono (a := 1000) ?_ (by decide)) (pow_mono sb (by decide)) q
    have e : (if t < 0 then -t else t).natAbs = t.natAbs := by rw [abs_e]; omega
    rw [e]
    exact st
theorem ok_Ratio_DrsubD {P : Program} {w : World} {K : PySem.W.Frag} {mg : Str → Option Value} {base : Heap} (T : Tx K mg) : OkM P w K mg base CX0 5 "Ratio" "__rsub__" ["self", "other"] [] ((spBin K fRsub)) := by
  obtain ⟨fd, F⟩ := T.d_Ratio_DrsubD
  refine ⟨fd, [], F.ok sc_Ratio_DrsubD (fun vs H Q E h => ?len) (fun cdv A outer s H vs Q E hr h => ?body), T.cls_Ratio, T.meth_Ratio_DrsubD, F.bindsN fun _ _ _ _ _ _ us hl => match us, hl with | [_, _], _ => rfl, .nil⟩
  case len =>
    obtain ⟨x, v, t, b, u, d, rfl, _⟩ := h
    rfl
  case body =>
    have O_Ratio_DaddD := ok_Ratio_DaddD (P := P) (w := w) (base := base) T
    have O_Ratio_DnegD := ok_Ratio_DnegD (P := P) (w := w) (base := base) T
    obtain ⟨x, v, t, b, u, d, rfl, hx, hv, st, sb, su, sd, hb, hd, q⟩ := h
    refine ⟨_, PSs.nox (pss_one (ps_ret (pe_opS (op_own O_Ratio_DaddD T.own_Ratio (rv_meth T.meth_Ratio_DraddD) (hr.mono (by decide)) pas0 PySem.F.fills_int_add tk_add) (pe_unS (un_negOwn O_Ratio_DnegD (hr.mono (by decide)) pas0) (pv 0)) (pv 1)))), ?_⟩
    try dsimp only [cxOf, Cx.nox, Cx.wish]
    rw [show ∀ z0 z1 : V, L2.start ["self", "other"] [z0, z1] = [some z0, some z1] from fun _ _ => rfl]
    obtain ⟨ax, dx, rfl, hx⟩ := hx
    walk_at "pb"
    refine i_own1 hx ⟨_, t, b, rfl, ⟨ax, dx, rfl, hx⟩, st, sb, hb, fun a dx' H1 t' b' ha k1 h1 hr => ?_⟩
    replace hv := hv.keep k1
    have st' : t'.natAbs < 2 ^ 1000 := Nat.lt_of_le_of_lt (hr.st hb) (by show (-t).natAbs < _; rw [Int.natAbs_neg]; exact st)
    have sb' : b'.natAbs < 2 ^ 1000 := Nat.lt_of_le_of_lt (hr.sb hb) sb
    have hb' : b' ≠ 0 := by have := hr.pos; omega
    have fin : ∀ (a : Addr) (dx : Addr) (H' : Hp) (t'' b'' : Int), H1 a = none → Keep [] H1 H' → H' a = some (.ins (He.ga K "Ratio") dx (rf t'' b'')) → Red (fAdd t' b' u d).1 (fAdd t' b' u d).2 t'' b'' → Q (.ref a) H' := by
      intro a2 dx2 H2 t2 b2 ha2 k2 h2 hr2
      refine q a2 dx2 H2 t2 b2 (k1.free (by simp) ha2) (k1.trans k2) h2 ?_
      have e0 : t' * b = -t * b' := hr.eq
      have e1 : t2 * (b' * d) = (t' * d + u * b') * b2 := hr2.eq
      refine ⟨hr2.pos, hr2.low, ?_⟩
      show t2 * (b * d) = (u * b - t * d) * b2
      refine Int.eq_of_mul_eq_mul_right hb' ?_
      have e2 : t2 * (b * d) * b' = (t2 * (b' * d)) * b := by
        simp only [Int.mul_assoc, Int.mul_comm, Int.mul_left_comm]
      rw [e2, e1]
      have e3 : (t' * d + u * b') * b2 * b = ((t' * b) * d + u * b' * b) * b2 := by walk_at "rng"
      rw [e3, e0]
      walk_at "rng"
    walk_at "pb"
    rcases hv with hv | ⟨rfl, rfl⟩
    · obtain ⟨av, dv, rfl, hv'⟩ := hv
      exact i_own h1 hv' ⟨_, _, t', b', u, d, rfl, ⟨_, _, rfl, h1⟩, .inl ⟨_, _, rfl, hv'⟩, st', sb', su, sd, hb', hd, fin⟩
    · exact i_ownI h1 ⟨_, _, t', b', u, 1, rfl, ⟨_, _, rfl, h1⟩, .inr ⟨rfl, rfl⟩, st', sb', su, sd, hb', hd, fin⟩
def spWhole : Sp := fun vs H Q _ => ∃ i : Int, vs = [.int i] ∧ Q (.bl true) H
def spStart (K : PySem.W.Frag) : Sp := fun vs H Q _ => ∃ (a : Addr) (ns : List Int), vs = [.ref a] ∧ SqL K H a (ns.map V.int) ∧ ns.length ≤ 63 ∧ ∀ S l H', H S = none → H l = none → Keep [] H H' → Stm S l 0 H' → Q (.ref S) H'
theorem ok_l_start {P : Program} {w : World} {K : PySem.W.Frag} {mg : Str → Option Value} {base : Heap} (T : Tx K mg) : OkF P w K mg base CX0 1 "_law_start" ["_law_script"] [] ((spStart K)) := by
  obtain ⟨fd, F⟩ := T.d_l_start
  refine ⟨fd, [], F.ok sc_l_start (fun vs H Q E h => ?len) (fun cdv A outer s H vs Q E hr h => ?body), T.g_l_start, F.kp, F.bindsN fun _ _ _ _ _ _ us hl => match us, hl with | [_], _ => rfl, .nil⟩
  case len =>
    obtain ⟨a, ns, rfl, _⟩ := h
    rfl
  case body =>
    obtain ⟨a, ns, rfl, hs, hl, q⟩ := h
    refine ⟨_, PSs.nox (pss_one (ps_ret (pe_lst (pa_cons (pe_callTy call_list_of (by rfl) T.f_list (by decide +kernel) (pa_cons (pv 0) pa_nil)) (pa_cons pe_int (pa_cons pe_int (pa_cons pe_int pa_nil))))))), ?_⟩
    try dsimp only [cxOf, Cx.nox, Cx.wish]
    rw [show ∀ z0 : V, L2.start ["_law_script"] [z0] = [some z0] from fun _ => rfl]
    walk_at "pb"
    refine ⟨a, _, rfl, .inl hs, fun l hl0 => ?_⟩
    refine i_new (o := .lst (ns.map V.int)) hl0 fun H1 k1 h1 => ?_
    walk_at "pb"
    refine i_lstR (by walk_at "sz") fun S H2 hS k2 hS2 => ?_
    have hne : S ≠ l := fun e => by subst e; rw [hS] at h1; cases h1
    exact q S l H2 (k1.free (by simp) hS) hl0 (k1.trans k2) ⟨hne, ns, 0, 0, 0, by omega, hS2, k2.at_ _ _ (by simp) h1, hl, by omega, by omega⟩
def spNumber : Sp := fun vs H Q _ => ∃ (S l : Addr) (n : Nat), vs = [.ref S] ∧ n < 9999000 ∧ Stm S l n H ∧ ∀ H' (r : Int), Keep [S, l] H H' → Stm S l (n + 2) H' → r.natAbs < 2 ^ 150 → Q (.int r) H'
theorem ten40 : (10 : Int) ^ (Int.toNat 40) = 10000000000000000000000000000000000000000 := by decide
theorem ten9 : (10 : Int) ^ (Int.toNat 9) = 1000000000 := by decide
theorem p150 : (2 : Nat) ^ 150 = 1427247692705959881058285969449495136382746624 := by decide
theorem ok_l_m_number {P : Program} {w : World} {K : PySem.W.Frag} {mg : Str → Option Value} {base : Heap} (T : Tx K mg) : OkF P w K mg base CX0 2 "_law_m_number" ["_law_stream"] [] (spNumber) := by
  obtain ⟨fd, F⟩ := T.d_l_m_number
  refine ⟨fd, [], F.ok sc_l_m_number (fun vs H Q E h => ?len) (fun cdv A outer s H vs Q E hr h => ?body), T.g_l_m_number, F.kp, F.bindsN fun _ _ _ _ _ _ us hl => match us, hl with | [_], _ => rfl, .nil⟩
  case len =>
    obtain ⟨S, l, n, rfl, _⟩ := h
    rfl
  case body =>
    have O_l_draw := ok_l_draw (P := P) (w := w) (base := base) T
    obtain ⟨S, l, n, rfl, hn, hS, q⟩ := h
    refine ⟨_, PSs.nox (pss_cons (ps_set (i := 1) sc_l_m_number.nd rfl (Or.inl rfl) (PB.pe_callF O_l_draw (hr.mono (by decide)) pas0 (pa_cons (pv 0) (pa_cons pe_int pa_nil))))
      (pss_cons (ps_if (pt_cmpR op_eq (pv 1) pe_int (nomark _)) (pss_one (ps_ret (pe_op op_sub (PB.pe_callF O_l_draw (hr.mono (by decide)) pas0 (pa_cons (pv 0) (pa_cons pe_int pa_nil))) pe_int))) pss_nil)
      (pss_cons (ps_set (i := 2) sc_l_m_number.nd rfl (Or.inl rfl) (pe_ix ix_list (pe_lst (pa_cons pe_int (pa_cons (pe_op op_pow pe_int pe_int) (pa_cons (pe_op op_pow pe_int pe_int) pa_nil)))) (pe_op op_sub (pv 1) pe_int) (fun _ _ => rfl)))
      (pss_one (ps_ret (pe_op op_sub (PB.pe_callF O_l_draw (hr.mono (by decide)) pas0 (pa_cons (pv 0) (pa_cons (pe_op op_add (pe_op op_mulW pe_int (pv 2)) pe_int) pa_nil))) (pv 2))))))), ?_⟩
    try dsimp only [cxOf, Cx.nox, Cx.wish]
    rw [show ∀ z0 : V, L2.start ["_law_stream", "_law_kind", "_law_size"] [z0] = [some z0, none, none] from fun _ => rfl]
    walk_at "pb"
    refine ⟨S, l, n, 4, rfl, by decide, by decide +kernel, by omega, hS, fun H1 k k1 hS h0 h4 => ?_⟩
    walk_at "pb"
    refine b_eqI (fun hk => ?_) (fun hk => ?_)
    · walk_at "pb"
      refine ⟨S, l, n + 1, 5, rfl, by decide, by decide +kernel, by omega, hS, fun H2 r k2 hS h0 h5 => ?_⟩
      walk_at "pb"
      exact q _ _ (k1.trans k2) hS (by rw [p150]; omega)
    · walk_at "pb"
      refine i_rI ⟨by decide, by decide, by decide⟩ ?_
      walk_at "pb"
      refine i_rI ⟨by decide, by decide, by decide⟩ ?_
      walk_at "pb"
      rw [ten40, ten9]
      refine i_lstR (by walk_at "sz") fun p H2 hp k2 hp2 => ?_
      walk_at "pb"
      have key : ∃ z : Int, 1000 ≤ z ∧ z ≤ 10 ^ 40 ∧ atI [V.int 1000, .int 1000000000, .int 10000000000000000000000000000000000000000] (k - 1) = some (.int z) := by
        have hk3 : k = 1 ∨ k = 2 ∨ k = 3 := by omega
        rcases hk3 with rfl | rfl | rfl
        · exact ⟨1000, by decide, by decide, rfl⟩
        · exact ⟨1000000000, by decide, by decide, rfl⟩
        · exact ⟨10000000000000000000000000000000000000000, by decide, by decide, rfl⟩
      obtain ⟨z, hz1, hz2, hat⟩ := key
      refine i_ixL (SqL.of hp2) hat ?_
      walk_at "pb"
      have hzb : z.natAbs < 2 ^ 150 := by rw [p150]; omega
      refine i_rI (wide_mul (i := 2) (a := 64) (b := 150) (by decide) hzb (by decide) (by decide) (by decide)) ?_
      walk_at "pb"
      have hS2 : Stm S l (n + 1) H2 := hS.keep k2 (by simp) (by simp)
      refine ⟨S, l, n + 1, 2 * z + 1, rfl, by omega, ?_, by omega, hS2, fun H3 r k3 hS h0 h5 => ?_⟩
      · have : (2 * z + 1).natAbs < 2 ^ 150 := by rw [p150]; omega
        exact pow_mono this (by decide)
      · walk_at "pb"
        exact q _ _ ((k1.trans k2.same).trans k3) hS (by rw [p150]; omega)
def spMR (K : PySem.W.Frag) : Sp := fun vs H Q _ => ∃ (v : V) (t b hi lo : Int), vs = [v, .int hi, .int lo] ∧ IsR K H v t b ∧ 0 < b ∧ Int.gcd t b = 1 ∧ t * lo = hi * b ∧ t.natAbs < 2 ^ 2500 ∧ b.natAbs < 2 ^ 2500 ∧ hi.natAbs < 2 ^ 2500 ∧ lo.natAbs < 2 ^ 2500 ∧ Q (.bl true) H
/-- v is the Ratio of hi over lo -/
def RV (K : PySem.W.Frag) (H : Hp) (v : V) (hi lo : Int) : Prop := ∃ t b, IsR K H v t b ∧ Red hi lo t b
theorem RV.keep {K : PySem.W.Frag} {H H' : Hp} {v : V} {hi lo : Int} (h : RV K H v hi lo) (k : Keep [] H H') : RV K H' v hi lo := let ⟨t, b, r, e⟩ := h; ⟨t, b, r.keep k, e⟩
theorem RV.keepL {K : PySem.W.Frag} {H H' : Hp} {v : V} {hi lo : Int} {ps : Addr} {xs : List V} (h : RV K H v hi lo) (hp : H ps = some (.lst xs)) (k : Keep [ps] H H') : RV K H' v hi lo := by
  obtain ⟨t, b, ⟨a, dx, e, ha⟩, r⟩ := h
  refine ⟨t, b, ⟨a, dx, e, k.at_ _ _ ?_ ha⟩, r⟩
  have : a ≠ ps := ne_of ha hp (fun z => nomatch z)
  simpa using this
theorem Red.conv {p q p' q' t b : Int} (h : Red p q t b) (hq : q ≠ 0) (e : p * q' = p' * q) : Red p' q' t b := by
  refine ⟨h.pos, h.low, Int.eq_of_mul_eq_mul_right hq ?_⟩
  have e1 : t * q' * q = (t * q) * q' := by walk_at "rng"
  have e2 : p' * b * q = (p' * q) * b := by walk_at "rng"
  rw [e1, e2, h.eq, ← e]
  walk_at "rng"
/-- the second operand: a Ratio, or an int over 1 -/
def RI (K : PySem.W.Frag) (H : Hp) (v : V) (hi lo : Int) : Prop := RV K H v hi lo ∨ (v = .int hi ∧ lo = 1)
section
variable {K : PySem.W.Frag} {H : Hp} {Q : VK} {E : XK} {W : WX} {σ : L2.St} {F : Int → Int → Int → Int → Int × Int} {F1 : Int → Int → Int × Int} {v1 v2 : V} {hi1 lo1 hi2 lo2 hi lo : Int}
theorem use_bin (r1 : RV K H v1 hi1 lo1) (r2 : RI K H v2 hi2 lo2) (n1 : lo1 ≠ 0) (n2 : lo2 ≠ 0) (s1 : hi1.natAbs < 2 ^ 1000) (s2 : lo1.natAbs < 2 ^ 1000) (s3 : hi2.natAbs < 2 ^ 1000) (s4 : lo2.natAbs < 2 ^ 1000)
    (alg : ∀ t b u d, t * lo1 = hi1 * b → u * lo2 = hi2 * d → (F t b u d).1 * lo = hi * (F t b u d).2) (nz : ∀ t b u d, 0 < b → 0 < d → (F t b u d).2 ≠ 0)
    (k : ∀ a H', Keep [] H H' → RV K H' (.ref a) hi lo → Q (.ref a) H') : spBin K F [v1, v2] H Q E := by
  obtain ⟨t, b, i1, e1⟩ := r1
  have st : t.natAbs < 2 ^ 1000 := Nat.lt_of_le_of_lt (e1.st n1) s1
  have sb : b.natAbs < 2 ^ 1000 := Nat.lt_of_le_of_lt (e1.sb n1) s2
  have hb : b ≠ 0 := by have := e1.pos; omega
  rcases r2 with ⟨u, d, i2, e2⟩ | ⟨rfl, rfl⟩
  · have hd : d ≠ 0 := by have := e2.pos; omega
    refine ⟨v1, v2, t, b, u, d, rfl, i1, .inl i2, st, sb, Nat.lt_of_le_of_lt (e2.st n2) s3, Nat.lt_of_le_of_lt (e2.sb n2) s4, hb, hd, fun a dx H' t' b' _ k1 ha hr => ?_⟩
    exact k a H' k1 ⟨t', b', ⟨a, dx, rfl, ha⟩, hr.conv (nz t b u d e1.pos e2.pos) (alg t b u d e1.eq e2.eq)⟩
  · refine ⟨v1, _, t, b, hi2, 1, rfl, i1, .inr ⟨rfl, rfl⟩, st, sb, s3, s4, hb, by decide, fun a dx H' t' b' _ k1 ha hr => ?_⟩
    exact k a H' k1 ⟨t', b', ⟨a, dx, rfl, ha⟩, hr.conv (nz t b hi2 1 e1.pos (by decide)) (alg t b hi2 1 e1.eq rfl)⟩
theorem use_own (r1 : RV K H v1 hi1 lo1) (r2 : RI K H v2 hi2 lo2) (n1 : lo1 ≠ 0) (n2 : lo2 ≠ 0) (s1 : hi1.natAbs < 2 ^ 1000) (s2 : lo1.natAbs < 2 ^ 1000) (s3 : hi2.natAbs < 2 ^ 1000) (s4 : lo2.natAbs < 2 ^ 1000)
    (alg : ∀ t b u d, t * lo1 = hi1 * b → u * lo2 = hi2 * d → (F t b u d).1 * lo = hi * (F t b u d).2) (nz : ∀ t b u d, 0 < b → 0 < d → (F t b u d).2 ≠ 0)
    (k : ∀ a H', Keep [] H H' → RV K H' (.ref a) hi lo → Q (.ref a) H') : rOwn (He.ga K "Ratio") (spBin K F) W σ v1 v2 H Q := by
  have h := use_bin (E := WE W σ) r1 r2 n1 n2 s1 s2 s3 s4 alg nz k
  obtain ⟨t, b, ⟨a, dx, rfl, ha⟩, e1⟩ := r1
  rcases r2 with ⟨u, d, ⟨a2, dx2, rfl, ha2⟩, e2⟩ | ⟨rfl, rfl⟩
  · exact i_own ha ha2 h
  · exact i_ownI ha h
theorem use_rown {i : Int} (r1 : RV K H v1 hi1 lo1) (n1 : lo1 ≠ 0) (s1 : hi1.natAbs < 2 ^ 1000) (s2 : lo1.natAbs < 2 ^ 1000) (s3 : i.natAbs < 2 ^ 1000)
    (alg : ∀ t b u d, t * lo1 = hi1 * b → u * 1 = i * d → (F t b u d).1 * lo = hi * (F t b u d).2) (nz : ∀ t b u d, 0 < b → 0 < d → (F t b u d).2 ≠ 0)
    (k : ∀ a H', Keep [] H H' → RV K H' (.ref a) hi lo → Q (.ref a) H') : rROwn (He.ga K "Ratio") (spBin K F) W σ (.int i) v1 H Q := by
  have h := use_bin (E := WE W σ) (v2 := .int i) r1 (.inr ⟨rfl, rfl⟩) n1 (by decide) s1 s2 s3 (by decide +kernel) alg nz k
  obtain ⟨t, b, ⟨a, dx, rfl, ha⟩, e1⟩ := r1
  exact i_rown ha h
theorem use_un (r1 : RV K H v1 hi1 lo1) (n1 : lo1 ≠ 0) (s1 : hi1.natAbs < 2 ^ 1000) (s2 : lo1.natAbs < 2 ^ 1000)
    (alg : ∀ t b, 0 < b → t * lo1 = hi1 * b → (F1 t b).1 * lo = hi * (F1 t b).2) (nz : ∀ t b, 0 < b → (F1 t b).2 ≠ 0)
    (k : ∀ a H', Keep [] H H' → RV K H' (.ref a) hi lo → Q (.ref a) H') : rOwn1 (He.ga K "Ratio") (spUn K F1) W σ v1 H Q := by
  obtain ⟨t, b, i1, e1⟩ := r1
  have i1' := i1
  obtain ⟨a, dx, rfl, ha⟩ := i1'
  refine i_own1 ha ⟨_, t, b, rfl, i1, Nat.lt_of_le_of_lt (e1.st n1) s1, Nat.lt_of_le_of_lt (e1.sb n1) s2, by have := e1.pos; omega, fun a dx H' t' b' _ k1 ha hr => ?_⟩
  exact k a H' k1 ⟨t', b', ⟨a, dx, rfl, ha⟩, hr.conv (nz t b e1.pos) (alg t b e1.pos e1.eq)⟩
theorem use_makeR {p q : Int} (hz : q ≠ 0) (s1 : p.natAbs < 2 ^ 1000) (s2 : q.natAbs < 2 ^ 1000) (h : ∀ a H', Keep [] H H' → RV K H' (.ref a) p q → Q (.ref a) H') : NewI (He.ga K "Ratio") (spInit K) [.int p, .int q] E H Q :=
  use_make hz (pow_mono s1 (by decide)) (pow_mono s2 (by decide)) fun a dx H' t b _ k ha hr => h a H' k ⟨t, b, ⟨a, dx, rfl, ha⟩, hr⟩
end
theorem mulP {i j : Int} (hi : i.natAbs < 2 ^ 150) (hj : j.natAbs < 2 ^ 150) : CMulW i j := wide_mul hi hj (by decide) (by decide) (by decide)
theorem b1 {i : Int} (h : i.natAbs < 2 ^ 150) : i.natAbs < 2 ^ 1000 := pow_mono h (by decide)
theorem b2 {i j : Int} (h : i.natAbs < 2 ^ 150) (g : j.natAbs < 2 ^ 150) : (i * j).natAbs < 2 ^ 1000 := pow_mono (wide_lt h g) (by decide)
theorem b3 {i j k l : Int} (h : i.natAbs < 2 ^ 150) (g : j.natAbs < 2 ^ 150) (h' : k.natAbs < 2 ^ 150) (g' : l.natAbs < 2 ^ 150) : (i * j + k * l).natAbs < 2 ^ 1000 := pow_mono (add_lt (wide_lt h g) (wide_lt h' g')) (by decide)
theorem b4 {i j k l : Int} (h : i.natAbs < 2 ^ 150) (g : j.natAbs < 2 ^ 150) (h' : k.natAbs < 2 ^ 150) (g' : l.natAbs < 2 ^ 150) : (i * j - k * l).natAbs < 2 ^ 1000 := pow_mono (sub_lt (wide_lt h g) (wide_lt h' g')) (by decide)
theorem b5 {i k l : Int} (h : i.natAbs < 2 ^ 150) (h' : k.natAbs < 2 ^ 150) (g' : l.natAbs < 2 ^ 150) : (i + k * l).natAbs < 2 ^ 1000 := pow_mono (add_lt (pow_mono h (by decide)) (wide_lt h' g')) (by decide)
theorem b6 {i k l : Int} (h : i.natAbs < 2 ^ 150) (h' : k.natAbs < 2 ^ 150) (g' : l.natAbs < 2 ^ 150) : (i - k * l).natAbs < 2 ^ 1000 := pow_mono (sub_lt (pow_mono h (by decide)) (wide_lt h' g')) (by decide)
theorem b7 {i k l : Int} (h : i.natAbs < 2 ^ 150) (h' : k.natAbs < 2 ^ 150) (g' : l.natAbs < 2 ^ 150) : (k * l - i).natAbs < 2 ^ 1000 := pow_mono (sub_lt (wide_lt h' g') (pow_mono h (by decide))) (by decide)
local macro_rules | `(tactic| walk_at "pm") => `(tactic| repeat (first | walk_at "pb1" | (with_reducible refine PB.i_rI (mulP (by assumption) (by assumption)) ?_)))
theorem alg_abs {t b l h : Int} (hb : 0 < b) (e : t * l = h * b) : (if t < 0 then -t else t) * (if l < 0 then -l else l) = (if h < 0 then -h else h) * b := by
  rw [abs_e, abs_e, abs_e]
  have e1 : t.natAbs * l.natAbs = h.natAbs * b.natAbs := by rw [← Int.natAbs_mul, ← Int.natAbs_mul, e]
  have e2 : (b.natAbs : Int) = b := by omega
  rw [← e2]
  exact_mod_cast e1
theorem abs_ne {l : Int} (h : l ≠ 0) : (if l < 0 then -l else l) ≠ 0 := by omega
theorem abs_lt {l : Int} (h : l.natAbs < 2 ^ 150) : (if l < 0 then -l else l).natAbs < 2 ^ 1000 := by
  rw [abs_e]
  exact pow_mono h (by decide)
theorem nzM {t b u d : Int} (hb : 0 < b) (hd : 0 < d) : b * d ≠ 0 := Int.mul_ne_zero (by omega) (by omega)
theorem alg_add {t b u d h1 l1 h2 l2 : Int} (e1 : t * l1 = h1 * b) (e2 : u * l2 = h2 * d) : (t * d + u * b) * (l1 * l2) = (h1 * l2 + h2 * l1) * (b * d) := by
  have e : (t * d + u * b) * (l1 * l2) = (t * l1) * (d * l2) + (u * l2) * (b * l1) := by walk_at "rng"
  rw [e, e1, e2]
  walk_at "rng"
theorem alg_sub {t b u d h1 l1 h2 l2 : Int} (e1 : t * l1 = h1 * b) (e2 : u * l2 = h2 * d) : (t * d - u * b) * (l1 * l2) = (h1 * l2 - h2 * l1) * (b * d) := by
  have e : (t * d - u * b) * (l1 * l2) = (t * l1) * (d * l2) - (u * l2) * (b * l1) := by walk_at "rng"
  rw [e, e1, e2]
  walk_at "rng"
theorem alg_mul {t b u d h1 l1 h2 l2 : Int} (e1 : t * l1 = h1 * b) (e2 : u * l2 = h2 * d) : (t * u) * (l1 * l2) = (h1 * h2) * (b * d) := by
  have e : (t * u) * (l1 * l2) = (t * l1) * (u * l2) := by walk_at "rng"
  rw [e, e1, e2]
  walk_at "rng"
theorem alg_rsub {t b u d h1 l1 h2 l2 : Int} (e1 : t * l1 = h1 * b) (e2 : u * l2 = h2 * d) : (u * b - t * d) * (l1 * l2) = (h2 * l1 - h1 * l2) * (b * d) := by
  have e : (u * b - t * d) * (l1 * l2) = (u * l2) * (b * l1) - (t * l1) * (d * l2) := by walk_at "rng"
  rw [e, e1, e2]
  walk_at "rng"

theorem ok_l_same_step {P : Program} {w : World} {K : PySem.W.Frag} {mg : Str → Option Value} {base : Heap} {j : Nat} {n : Nat} (T : Tx K mg) (O_l_same : OkF P w K mg base CX0 j "_law_same" ["_law_found", "_law_due_here"] [] (spSameN n)) : OkF P w K mg base CX0 (j + 1) "_law_same" ["_law_found", "_law_due_here"] [] ((spSame n)) := by
  obtain ⟨fd, F⟩ := T.d_l_same
  refine ⟨fd, [], F.ok sc_l_same (fun vs H Q E h => ?len) (fun cdv A outer s H vs Q E hr h => ?body), T.g_l_same, F.kp, F.bindsN fun _ _ _ _ _ _ us hl => match us, hl with | [_, _], _ => rfl, .nil⟩
  case len =>
    obtain ⟨x, y, rfl, _⟩ := h
    rfl
  case body =>
    obtain ⟨x, y, rfl, hxy, q⟩ := h
    refine ⟨_, PSs.nox (pss_cons (ps_if (pt_val (pe_callB call_isiT (by rfl) T.f_isinstance (by decide +kernel) (pa_cons (pv 1) (pa_cons (pe_tup (pa_cons (pe_bltn (v := .ty "list") (by rfl) T.f_list (by decide +kernel) rfl) (pa_cons (pe_bltn (v := .ty "tuple") (by rfl) T.f_tuple (by decide +kernel) rfl) pa_nil))) pa_nil)))) (pss_cons (ps_if (PW.pt (pw_or (pt_cmpR op_ne (pe_callB call_isi (by rfl) T.f_isinstance (by decide +kernel) (pa_cons (pv 0) (pa_cons (pe_bltn (v := .ty "list") (by rfl) T.f_list (by decide +kernel) rfl) pa_nil))) (pe_callB call_isi (by rfl) T.f_isinstance (by decide +kernel) (pa_cons (pv 1) (pa_cons (pe_bltn (v := .ty "list") (by rfl) T.f_list (by decide +kernel) rfl) pa_nil))) (nomark _)) (pw_or1 (pt_cmpR op_ne (pe_callB call_isi (by rfl) T.f_isinstance (by decide +kernel) (pa_cons (pv 0) (pa_cons (pe_bltn (v := .ty "tuple") (by rfl) T.f_tuple (by decide +kernel) rfl) pa_nil))) (pe_callB call_isi (by rfl) T.f_isinstance (by decide +kernel) (pa_cons (pv 1) (pa_cons (pe_bltn (v := .ty "tuple") (by rfl) T.f_tuple (by decide +kernel) rfl) pa_nil))) (nomark _))))) (pss_one (ps_ret pe_bl)) pss_nil)
      (pss_one (ps_ret (pe_and (pe_cmpR op_eq (pe_callB PB.call_lenN (by rfl) T.f_len boot_len (pa_cons (pv 0) pa_nil)) (pe_callB PB.call_lenN (by rfl) T.f_len boot_len (pa_cons (pv 1) pa_nil)) (nomark _)) (pe_one (pe_callB (cr_all rfl) (by rfl) T.f_all (by decide +kernel) (pa_cons (pe_lc (own := [("_law_one", 2), ("_law_other", 3)]) (g := (gTup K 2 (gCons (gName 2) (gCons (gName 3) gNil)))) (by rfl) sc_l_same.nd (RZ.pi_zipA (by rfl) T.f_zip (pa_cons (pv 0) (pa_cons (pv 1) pa_nil))) (blkOk_by (own := [("_law_one", 2), ("_law_other", 3)]) (N := ["_law_found", "_law_due_here", "_law_one", "_law_other"]) (sc := defScope (topS 8)) (by decide +kernel)) (fun _ _ _ _ _ => (pg_tup rfl (pgs_cons (pg_name (i := 2) sc_l_same.nd rfl (Or.inl rfl)) (pgs_cons (pg_name (i := 3) sc_l_same.nd rfl (Or.inl rfl)) pgs_nil)))) (fun _ _ _ _ _ => pts_nil) (fun _ _ _ _ _ => (PB.pe_callF O_l_same (hr.mono (by omega)) pas0 (pa_cons (pv 2) (pa_cons (pv 3) pa_nil))))) pa_nil))))))) pss_nil)
      (pss_cons (ps_if (pt_val (pe_callB call_isi (by rfl) T.f_isinstance (by decide +kernel) (pa_cons (pv 1) (pa_cons (pe_bltn (v := .ty "int") (by rfl) T.f_int (by decide +kernel) rfl) pa_nil)))) (pss_one (ps_ret (pe_and (pe_callB call_isi (by rfl) T.f_isinstance (by decide +kernel) (pa_cons (pv 0) (pa_cons (pe_bltn (v := .ty "int") (by rfl) T.f_int (by decide +kernel) rfl) pa_nil))) (pe_and (pe_cmpR op_eq (pe_callB call_isi (by rfl) T.f_isinstance (by decide +kernel) (pa_cons (pv 0) (pa_cons (pe_bltn (v := .ty "bool") (by rfl) T.f_bool (by decide +kernel) rfl) pa_nil))) (pe_callB call_isi (by rfl) T.f_isinstance (by decide +kernel) (pa_cons (pv 1) (pa_cons (pe_bltn (v := .ty "bool") (by rfl) T.f_bool (by decide +kernel) rfl) pa_nil))) (nomark _)) (pe_one (pe_cmpR op_eq (pv 0) (pv 1) (nomark _))))))) pss_nil)
      (pss_one (ps_ret (pe_and (pe_cmpR op_eq (pv 0) (pv 1) (nomark _)) (pe_one (pe_cmpR op_isBl (pe_callB call_isiT (by rfl) T.f_isinstance (by decide +kernel) (pa_cons (pv 0) (pa_cons (pe_tup (pa_cons (pe_bltn (v := .ty "int") (by rfl) T.f_int (by decide +kernel) rfl) (pa_cons (pe_bltn (v := .ty "list") (by rfl) T.f_list (by decide +kernel) rfl) (pa_cons (pe_bltn (v := .ty "tuple") (by rfl) T.f_tuple (by decide +kernel) rfl) pa_nil)))) pa_nil))) pe_bl (nomark _)))))))), ?_⟩
    try dsimp only [cxOf, Cx.nox, Cx.wish]
    rw [show ∀ z0 z1 : V, L2.start ["_law_found", "_law_due_here", "_law_one", "_law_other"] [z0, z1] = [some z0, some z1, none, none] from fun _ _ => rfl]
    walk_at "pb"
    refine i_tupR (by walk_at "sz") fun p H1 _ k1 hp => ?_
    replace q : ∀ H', Keep [] H1 H' → Q (.bl true) H' := fun H' k => q H' (k1.trans k)
    replace hxy := hxy.keep k1
    clear k1
    walk_at "pb"
    cases hxy with
    | int i =>
      refine i_isiT (k := false) ["list", "tuple"] hp (.int i) (by decide +kernel) ?_
      walk_at "pb"
      refine i_isi_intT ?_
      walk_at "pb"
      refine i_isi_intT ?_
      walk_at "pb"
      refine i_isi_intF ?_
      walk_at "pb"
      refine i_isi_intF ?_
      walk_at "pb"
      rw [decide_eq_true rfl]
      exact q _ (.refl _)
    | bl i =>
      refine i_isiT (k := false) ["list", "tuple"] hp (.bl i) (by decide +kernel) ?_
      walk_at "pb"
      refine i_isi_blT ?_
      walk_at "pb"
      refine i_isi_blT ?_
      walk_at "pb"
      refine i_isi_blT ?_
      walk_at "pb"
      refine i_isi_blT ?_
      walk_at "pb"
      rw [decide_eq_true rfl]
      exact q _ (.refl _)
    | str i =>
      refine i_isiT (k := false) ["list", "tuple"] hp (.str i) (by decide +kernel) ?_
      walk_at "pb"
      refine i_isi_strF ?_
      walk_at "pb"
      refine i_tupR (by walk_at "sz") fun p H2 _ k2 hp => ?_
      walk_at "pb"
      refine i_isiT (k := false) ["int", "list", "tuple"] hp (.str i) (by decide +kernel) ?_
      walk_at "pb"
      rw [decide_eq_true rfl]
      exact q _ k2
    | non =>
      refine i_isiT (k := false) ["list", "tuple"] hp .non (by decide +kernel) ?_
      walk_at "pb"
      refine i_isi_nonF ?_
      walk_at "pb"
      refine i_tupR (by walk_at "sz") fun p H2 _ k2 hp => ?_
      walk_at "pb"
      refine i_isiT (k := false) ["int", "list", "tuple"] hp .non (by decide +kernel) ?_
      walk_at "pb"
      rw [decide_eq_true rfl]
      exact q _ k2
    | @lst _ a b xs ys ha hb hz hl he =>
      refine i_isiT (k := true) ["list", "tuple"] hp (.lst hb) (by decide +kernel) ?_
      walk_at "pb"
      refine i_isi_lstT ha ?_
      walk_at "pb"
      refine i_isi_lstT hb ?_
      walk_at "pb"
      refine i_isi_lstF ha ?_
      walk_at "pb"
      refine i_isi_lstF hb ?_
      walk_at "pb"
      refine i_lenL (SqL.of ha) ?_
      walk_at "pb"
      refine i_lenL (SqL.of hb) ?_
      rw [hl]
      walk_at "pb"
      refine i_itZL (SqL.of ha) (SqL.of hb) ?_
      refine r_lcZL hl fun Dl H2 hD k2 hD2 => ⟨fun i H' => Keep [] H1 H' ∧ H' Dl = some (.lst ((List.replicate i true).map V.bl)), ⟨k2, hD2⟩, fun i H' h => ⟨SqL.of (h.1.at_ _ _ (by simp) ha), SqL.of (h.1.at_ _ _ (by simp) hb)⟩, ?_, ?_⟩
      · rintro i x y Tp H' H3 hx hy ⟨k, hd⟩ hT k3 hT3
        refine i_gtup (SqT.of hT3) rfl ?_
        have k3' := k.trans k3
        walk_at "pb"
        refine ⟨rfl, ?_⟩
        walk_at "pb"
        refine ⟨x, y, rfl, (he i x y hx hy).keep k3', fun H4 k4 => ?_⟩
        have hi : i < xs.length := (List.getElem?_eq_some_iff.mp hx).1
        have hd4 := k4.at_ _ _ (by simp) (k3.at_ _ _ (by simp) hd)
        refine i_put hd4 (by walk_at "sz") fun H5 k5 h5 => ⟨(k3'.trans k4).fresh1 hD k5, ?_⟩
        rw [h5, List.replicate_succ', List.map_append]
        rfl
      · rintro H' ⟨k, hd⟩
        walk_at "pb"
        refine i_all (SqL.of hd) ?_
        rw [all_rep]
        exact q _ k
    | @tup _ a b xs ys ha hb hz hl he =>
      refine i_isiT (k := true) ["list", "tuple"] hp (.tup hb) (by decide +kernel) ?_
      walk_at "pb"
      refine i_isi_tupF ha ?_
      walk_at "pb"
      refine i_isi_tupF hb ?_
      walk_at "pb"
      refine i_isi_tupT ha ?_
      walk_at "pb"
      refine i_isi_tupT hb ?_
      walk_at "pb"
      refine i_lenT (SqT.of ha) ?_
      walk_at "pb"
      refine i_lenT (SqT.of hb) ?_
      rw [hl]
      walk_at "pb"
      refine i_itZT (SqT.of ha) (SqT.of hb) ?_
      refine r_lcZT hl fun Dl H2 hD k2 hD2 => ⟨fun i H' => Keep [] H1 H' ∧ H' Dl = some (.lst ((List.replicate i true).map V.bl)), ⟨k2, hD2⟩, fun i H' h => ⟨SqT.of (h.1.at_ _ _ (by simp) ha), SqT.of (h.1.at_ _ _ (by simp) hb)⟩, ?_, ?_⟩
      · rintro i x y Tp H' H3 hx hy ⟨k, hd⟩ hT k3 hT3
        refine i_gtup (SqT.of hT3) rfl ?_
        have k3' := k.trans k3
        walk_at "pb"
        refine ⟨rfl, ?_⟩
        walk_at "pb"
        refine ⟨x, y, rfl, (he i x y hx hy).keep k3', fun H4 k4 => ?_⟩
        have hi : i < xs.length := (List.getElem?_eq_some_iff.mp hx).1
        have hd4 := k4.at_ _ _ (by simp) (k3.at_ _ _ (by simp) hd)
        refine i_put hd4 (by walk_at "sz") fun H5 k5 h5 => ⟨(k3'.trans k4).fresh1 hD k5, ?_⟩
        rw [h5, List.replicate_succ', List.map_append]
        rfl
      · rintro H' ⟨k, hd⟩
        walk_at "pb"
        refine i_all (SqL.of hd) ?_
        rw [all_rep]
        exact q _ k
theorem ok_l_sameN {P : Program} {w : World} {K : PySem.W.Frag} {mg : Str → Option Value} {base : Heap} (T : Tx K mg) : ∀ n : Nat, OkF P w K mg base CX0 (n + 1) "_law_same" ["_law_found", "_law_due_here"] [] (spSameN n)
  | 0 => by
    obtain ⟨fd, F⟩ := T.d_l_same
    refine ⟨fd, [], F.ok (k := 0) sc_l_same (fun vs H Q E h => ?_) (fun cdv A outer s H vs Q E hr h => ?_), T.g_l_same, F.kp, F.bindsN fun _ _ _ _ _ _ us hl => match us, hl with | [_, _], _ => rfl, .nil⟩
    · exact False.elim h
    · exact False.elim h
  | n + 1 => ok_l_same_step T (ok_l_sameN T n)
theorem ok_l_same {P : Program} {w : World} {K : PySem.W.Frag} {mg : Str → Option Value} {base : Heap} (T : Tx K mg) : OkF P w K mg base CX0 7 "_law_same" ["_law_found", "_law_due_here"] [] (spSame 5) := ok_l_sameN T 6

/-- the text of t over b -/
def ratText (t b : Int) : Str := if b = 1 then Str.ofString (toString t) else Str.ofString (toString t) ++ Str.ofString "/" ++ Str.ofString (toString b)
def spRStr (K : PySem.W.Frag) : Sp := fun vs H Q _ => ∃ (x : V) (t b : Int), vs = [x] ∧ IsR K H x t b ∧ t.natAbs < 2 ^ 1000 ∧ b.natAbs < 2 ^ 1000 ∧ Q (.str (ratText t b)) H
theorem len_sl : (Str.ofString "/").length = 1 := by decide +kernel
theorem ok_Ratio_DstrD {P : Program} {w : World} {K : PySem.W.Frag} {mg : Str → Option Value} {base : Heap} (T : Tx K mg) : OkM P w K mg base CX0 1 "Ratio" "__str__" ["self"] [] ((spRStr K)) := by
  obtain ⟨fd, F⟩ := T.d_Ratio_DstrD
  refine ⟨fd, [], F.ok sc_Ratio_DstrD (fun vs H Q E h => ?len) (fun cdv A outer s H vs Q E hr h => ?body), T.cls_Ratio, T.meth_Ratio_DstrD, F.bindsN fun _ _ _ _ _ _ us hl => match us, hl with | [_], _ => rfl, .nil⟩
  case len =>
    obtain ⟨x, t, b, rfl, _⟩ := h
    rfl
  case body =>
    obtain ⟨x, t, b, rfl, ⟨ax, dx, rfl, hx⟩, st, sb, q⟩ := h
    have lt := len_int (sz_mono st (by decide))
    have lb := len_int (sz_mono sb (by decide))
    refine ⟨_, PSs.nox (pss_cons (ps_if (pt_cmpR op_eq (pe_fld (pv 0) rfl) pe_int (nomark _)) (pss_one (ps_ret (pe_callTy PB.call_strI (by rfl) T.f_str (by decide +kernel) (pa_cons (pe_fld (pv 0) rfl) pa_nil)))) pss_nil)
      (pss_one (ps_ret (PB.pe_join (PJ.cons (pe_fmt (pe_fld (pv 0) rfl)) (PJ.cons pe_str (PJ.cons (pe_fmt (pe_fld (pv 0) rfl)) PJ.nil))))))), ?_⟩
    try dsimp only [cxOf, Cx.nox, Cx.wish]
    rw [show ∀ z0 : V, L2.start ["self"] [z0] = [some z0] from fun _ => rfl]
    walk_at "pb"
    refine i_fldR hx T.cls_Ratio T.noat_Ratio_bottom rfl ?_
    walk_at "pb"
    refine b_eqI (fun h1 => ?_) (fun h1 => ?_)
    · walk_at "pb"
      refine i_fldR hx T.cls_Ratio T.noat_Ratio_top rfl ?_
      walk_at "pb"
      refine i_strI (sz_mono st (by decide)) ?_
      rw [ratText, if_pos h1] at q
      exact q
    · walk_at "pb"
      refine i_fldR hx T.cls_Ratio T.noat_Ratio_top rfl ?_
      walk_at "pb"
      refine i_fmtI (sz_mono st (by decide)) ?_
      refine i_puts ?_ ?_
      · rw [Str.empty_append]
        exact sz_le (by omega)
      rw [Str.empty_append]
      walk_at "pb"
      refine i_puts ?_ ?_
      · rw [Str.length_append, len_sl]
        exact sz_le (by omega)
      walk_at "pb"
      refine i_fldR hx T.cls_Ratio T.noat_Ratio_bottom rfl ?_
      walk_at "pb"
      refine i_fmtI (sz_mono sb (by decide)) ?_
      refine i_puts ?_ ?_
      · rw [Str.length_append, Str.length_append, len_sl]
        exact sz_le (by omega)
      walk_at "pb"
      rw [ratText, if_neg h1] at q
      exact q
def spRBool (K : PySem.W.Frag) : Sp := fun vs H Q _ => ∃ (x : V) (t b : Int), vs = [x] ∧ IsR K H x t b ∧ Q (.bl (t != 0)) H
theorem ok_Ratio_DboolD {P : Program} {w : World} {K : PySem.W.Frag} {mg : Str → Option Value} {base : Heap} (T : Tx K mg) : OkM P w K mg base CX0 1 "Ratio" "__bool__" ["self"] [] ((spRBool K)) := by
  obtain ⟨fd, F⟩ := T.d_Ratio_DboolD
  refine ⟨fd, [], F.ok sc_Ratio_DboolD (fun vs H Q E h => ?len) (fun cdv A outer s H vs Q E hr h => ?body), T.cls_Ratio, T.meth_Ratio_DboolD, F.bindsN fun _ _ _ _ _ _ us hl => match us, hl with | [_], _ => rfl, .nil⟩
  case len =>
    obtain ⟨x, t, b, rfl, _⟩ := h
    rfl
  case body =>
    obtain ⟨x, t, b, rfl, ⟨ax, dx, rfl, hx⟩, q⟩ := h
    refine ⟨_, PSs.nox (pss_one (ps_ret (pe_callTy PB.call_boolI (by rfl) T.f_bool (by decide +kernel) (pa_cons (pe_fld (pv 0) rfl) pa_nil)))), ?_⟩
    try dsimp only [cxOf, Cx.nox, Cx.wish]
    rw [show ∀ z0 : V, L2.start ["self"] [z0] = [some z0] from fun _ => rfl]
    walk_at "pb"
    refine i_fldR hx T.cls_Ratio T.noat_Ratio_top rfl ?_
    walk_at "pb"
    exact q
def spCmp (K : PySem.W.Frag) (R : Int → Int → Bool) : Sp := fun vs H Q _ => ∃ (x v : V) (t b u d : Int) , vs = [x, v] ∧ IsR K H x t b ∧ FrV K H v u d ∧ t.natAbs < 2 ^ 1000 ∧ b.natAbs < 2 ^ 1000 ∧ u.natAbs < 2 ^ 1000 ∧ d.natAbs < 2 ^ 1000 ∧
  ∀ H', Keep [] H H' → Q (.bl (R (t * d) (u * b))) H'
abbrev cEq (i j : Int) : Bool := decide (V.int i = V.int j)
abbrev cLt (i j : Int) : Bool := decide (i < j)
abbrev cLe (i j : Int) : Bool := decide (i ≤ j)
abbrev cGt (i j : Int) : Bool := decide (i > j)
abbrev cGe (i j : Int) : Bool := decide (i ≥ j)
theorem ok_Ratio_DeqD {P : Program} {w : World} {K : PySem.W.Frag} {mg : Str → Option Value} {base : Heap} (T : Tx K mg) : OkM P w K mg base CX0 2 "Ratio" "__eq__" ["self", "other"] [] ((spCmp K cEq)) := by
  obtain ⟨fd, F⟩ := T.d_Ratio_DeqD
  refine ⟨fd, [], F.ok sc_Ratio_DeqD (fun vs H Q E h => ?len) (fun cdv A outer s H vs Q E hr h => ?body), T.cls_Ratio, T.meth_Ratio_DeqD, F.bindsN fun _ _ _ _ _ _ us hl => match us, hl with | [_, _], _ => rfl, .nil⟩
  case len =>
    obtain ⟨x, v, t, b, u, d, rfl, _⟩ := h
    rfl
  case body =>
    have O_fraction := ok_fraction (P := P) (w := w) (base := base) T
    obtain ⟨x, v, t, b, u, d, rfl, ⟨ax, dx, rfl, hx⟩, hv, st, sb, su, sd, q⟩ := h
    refine ⟨_, PSs.nox (C8.pss_cut (ps_if (PW.pt (pw_and (pt_not (pt_val (pe_callB call_isi (by rfl) T.f_isinstance (by decide +kernel) (pa_cons (pv 1) (pa_cons (pe_glob (v := .ref (He.ga K "Ratio")) (by rfl) T.g_Ratio rfl) pa_nil))))) (pw_and1 (pt_not (pt_val (pe_callB call_isi (by rfl) T.f_isinstance (by decide +kernel) (pa_cons (pv 1) (pa_cons (pe_bltn (v := .ty "int") (by rfl) T.f_int (by decide +kernel) rfl) pa_nil)))))))) (pss_one (ps_ret pe_dead)) pss_nil)
      (pss_cons (ps_asg (PB.pe_callF O_fraction (hr.mono (by decide)) pas0 (pa_cons (pv 1) pa_nil)) (pg_tup rfl (pgs_cons (pg_name (i := 2) sc_Ratio_DeqD.nd rfl (Or.inl rfl)) (pgs_cons (pg_name (i := 3) sc_Ratio_DeqD.nd rfl (Or.inl rfl)) pgs_nil))))
      (pss_one (ps_ret (pe_cmpR op_eq (pe_op op_mulW (pe_fld (pv 0) rfl) (pv 3)) (pe_op op_mulW (pv 2) (pe_fld (pv 0) rfl)) (nomark _)))))), ?_⟩
    try dsimp only [cxOf, Cx.nox, Cx.wish]
    rw [show ∀ z0 z1 : V, L2.start ["self", "other", "top", "bottom"] [z0, z1] = [some z0, some z1, none, none] from fun _ _ => rfl]
    refine i_cut (fun σ' H' => σ' = [some (.ref ax), some v, none, none] ∧ H' = H) ?_ ?_
    · walk_at "pb"
      rcases hv with ⟨a, dx', rfl, ha⟩ | ⟨rfl, rfl⟩
      · refine i_isi_own T.isi_Ratio ha ?_
        walk_at "pb"
        exact ⟨rfl, rfl⟩
      · refine i_isi_intOwn T.isi_Ratio ?_
        walk_at "pb"
        refine i_isi_intT ?_
        walk_at "pb"
        exact ⟨rfl, rfl⟩
    rintro σ' H' ⟨rfl, rfl⟩
    walk_at "pb"
    refine ⟨v, u, d, rfl, hv, fun p H1 k1 hp => ?_⟩
    replace hx := k1.at_ _ _ (by simp) hx
    refine i_gtup (SqT.of hp) rfl ?_
    walk_at "pb"
    refine i_fldR hx T.cls_Ratio T.noat_Ratio_top rfl ?_
    walk_at "pb"
    refine i_rI (mul2 st sd) ?_
    walk_at "pb"
    refine i_fldR hx T.cls_Ratio T.noat_Ratio_bottom rfl ?_
    refine i_rI (mul2 su sb) ?_
    walk_at "pb"
    exact q _ k1
theorem ok_Ratio_DltD {P : Program} {w : World} {K : PySem.W.Frag} {mg : Str → Option Value} {base : Heap} (T : Tx K mg) : OkM P w K mg base CX0 2 "Ratio" "__lt__" ["self", "other"] [] ((spCmp K cLt)) := by
  obtain ⟨fd, F⟩ := T.d_Ratio_DltD
  refine ⟨fd, [], F.ok sc_Ratio_DltD (fun vs H Q E h => ?len) (fun cdv A outer s H vs Q E hr h => ?body), T.cls_Ratio, T.meth_Ratio_DltD, F.bindsN fun _ _ _ _ _ _ us hl => match us, hl with | [_, _], _ => rfl, .nil⟩
  case len =>
    obtain ⟨x, v, t, b, u, d, rfl, _⟩ := h
    rfl
  case body =>
    have O_fraction := ok_fraction (P := P) (w := w) (base := base) T
    obtain ⟨x, v, t, b, u, d, rfl, ⟨ax, dx, rfl, hx⟩, hv, st, sb, su, sd, q⟩ := h
    refine ⟨_, PSs.nox (pss_cons (ps_asg (PB.pe_callF O_fraction (hr.mono (by decide)) pas0 (pa_cons (pv 1) pa_nil)) (pg_tup rfl (pgs_cons (pg_name (i := 2) sc_Ratio_DltD.nd rfl (Or.inl rfl)) (pgs_cons (pg_name (i := 3) sc_Ratio_DltD.nd rfl (Or.inl rfl)) pgs_nil))))
      (pss_one (ps_ret (pe_cmpR op_lt (pe_op op_mulW (pe_fld (pv 0) rfl) (pv 3)) (pe_op op_mulW (pv 2) (pe_fld (pv 0) rfl)) (nomark _))))), ?_⟩
    try dsimp only [cxOf, Cx.nox, Cx.wish]
    rw [show ∀ z0 z1 : V, L2.start ["self", "other", "top", "bottom"] [z0, z1] = [some z0, some z1, none, none] from fun _ _ => rfl]
    walk_at "pb"
    refine ⟨v, u, d, rfl, hv, fun p H1 k1 hp => ?_⟩
    replace hx := k1.at_ _ _ (by simp) hx
    refine i_gtup (SqT.of hp) rfl ?_
    walk_at "pb"
    refine i_fldR hx T.cls_Ratio T.noat_Ratio_top rfl ?_
    walk_at "pb"
    refine i_rI (mul2 st sd) ?_
    walk_at "pb"
    refine i_fldR hx T.cls_Ratio T.noat_Ratio_bottom rfl ?_
    refine i_rI (mul2 su sb) ?_
    walk_at "pb"
    exact q _ k1
theorem ok_Ratio_DleD {P : Program} {w : World} {K : PySem.W.Frag} {mg : Str → Option Value} {base : Heap} (T : Tx K mg) : OkM P w K mg base CX0 2 "Ratio" "__le__" ["self", "other"] [] ((spCmp K cLe)) := by
  obtain ⟨fd, F⟩ := T.d_Ratio_DleD
  refine ⟨fd, [], F.ok sc_Ratio_DleD (fun vs H Q E h => ?len) (fun cdv A outer s H vs Q E hr h => ?body), T.cls_Ratio, T.meth_Ratio_DleD, F.bindsN fun _ _ _ _ _ _ us hl => match us, hl with | [_, _], _ => rfl, .nil⟩
  case len =>
    obtain ⟨x, v, t, b, u, d, rfl, _⟩ := h
    rfl
  case body =>
    have O_fraction := ok_fraction (P := P) (w := w) (base := base) T
    obtain ⟨x, v, t, b, u, d, rfl, ⟨ax, dx, rfl, hx⟩, hv, st, sb, su, sd, q⟩ := h
    refine ⟨_, PSs.nox (pss_cons (ps_asg (PB.pe_callF O_fraction (hr.mono (by decide)) pas0 (pa_cons (pv 1) pa_nil)) (pg_tup rfl (pgs_cons (pg_name (i := 2) sc_Ratio_DleD.nd rfl (Or.inl rfl)) (pgs_cons (pg_name (i := 3) sc_Ratio_DleD.nd rfl (Or.inl rfl)) pgs_nil))))
      (pss_one (ps_ret (pe_cmpR op_le (pe_op op_mulW (pe_fld (pv 0) rfl) (pv 3)) (pe_op op_mulW (pv 2) (pe_fld (pv 0) rfl)) (nomark _))))), ?_⟩
    try dsimp only [cxOf, Cx.nox, Cx.wish]
    rw [show ∀ z0 z1 : V, L2.start ["self", "other", "top", "bottom"] [z0, z1] = [some z0, some z1, none, none] from fun _ _ => rfl]
    walk_at "pb"
    refine ⟨v, u, d, rfl, hv, fun p H1 k1 hp => ?_⟩
    replace hx := k1.at_ _ _ (by simp) hx
    refine i_gtup (SqT.of hp) rfl ?_
    walk_at "pb"
    refine i_fldR hx T.cls_Ratio T.noat_Ratio_top rfl ?_
    walk_at "pb"
    refine i_rI (mul2 st sd) ?_
    walk_at "pb"
    refine i_fldR hx T.cls_Ratio T.noat_Ratio_bottom rfl ?_
    refine i_rI (mul2 su sb) ?_
    walk_at "pb"
    exact q _ k1
theorem ok_Ratio_DgtD {P : Program} {w : World} {K : PySem.W.Frag} {mg : Str → Option Value} {base : Heap} (T : Tx K mg) : OkM P w K mg base CX0 2 "Ratio" "__gt__" ["self", "other"] [] ((spCmp K cGt)) := by
  obtain ⟨fd, F⟩ := T.d_Ratio_DgtD
  refine ⟨fd, [], F.ok sc_Ratio_DgtD (fun vs H Q E h => ?len) (fun cdv A outer s H vs Q E hr h => ?body), T.cls_Ratio, T.meth_Ratio_DgtD, F.bindsN fun _ _ _ _ _ _ us hl => match us, hl with | [_, _], _ => rfl, .nil⟩
  case len =>
    obtain ⟨x, v, t, b, u, d, rfl, _⟩ := h
    rfl
  case body =>
    have O_fraction := ok_fraction (P := P) (w := w) (base := base) T
    obtain ⟨x, v, t, b, u, d, rfl, ⟨ax, dx, rfl, hx⟩, hv, st, sb, su, sd, q⟩ := h
    refine ⟨_, PSs.nox (pss_cons (ps_asg (PB.pe_callF O_fraction (hr.mono (by decide)) pas0 (pa_cons (pv 1) pa_nil)) (pg_tup rfl (pgs_cons (pg_name (i := 2) sc_Ratio_DgtD.nd rfl (Or.inl rfl)) (pgs_cons (pg_name (i := 3) sc_Ratio_DgtD.nd rfl (Or.inl rfl)) pgs_nil))))
      (pss_one (ps_ret (pe_cmpR op_gt (pe_op op_mulW (pe_fld (pv 0) rfl) (pv 3)) (pe_op op_mulW (pv 2) (pe_fld (pv 0) rfl)) (nomark _))))), ?_⟩
    try dsimp only [cxOf, Cx.nox, Cx.wish]
    rw [show ∀ z0 z1 : V, L2.start ["self", "other", "top", "bottom"] [z0, z1] = [some z0, some z1, none, none] from fun _ _ => rfl]
    walk_at "pb"
    refine ⟨v, u, d, rfl, hv, fun p H1 k1 hp => ?_⟩
    replace hx := k1.at_ _ _ (by simp) hx
    refine i_gtup (SqT.of hp) rfl ?_
    walk_at "pb"
    refine i_fldR hx T.cls_Ratio T.noat_Ratio_top rfl ?_
    walk_at "pb"
    refine i_rI (mul2 st sd) ?_
    walk_at "pb"
    refine i_fldR hx T.cls_Ratio T.noat_Ratio_bottom rfl ?_
    refine i_rI (mul2 su sb) ?_
    walk_at "pb"
    exact q _ k1
theorem ok_Ratio_DgeD {P : Program} {w : World} {K : PySem.W.Frag} {mg : Str → Option Value} {base : Heap} (T : Tx K mg) : OkM P w K mg base CX0 2 "Ratio" "__ge__" ["self", "other"] [] ((spCmp K cGe)) := by
  obtain ⟨fd, F⟩ := T.d_Ratio_DgeD
  refine ⟨fd, [], F.ok sc_Ratio_DgeD (fun vs H Q E h => ?len) (fun cdv A outer s H vs Q E hr h => ?body), T.cls_Ratio, T.meth_Ratio_DgeD, F.bindsN fun _ _ _ _ _ _ us hl => match us, hl with | [_, _], _ => rfl, .nil⟩
  case len =>
    obtain ⟨x, v, t, b, u, d, rfl, _⟩ := h
    rfl
  case body =>
    have O_fraction := ok_fraction (P := P) (w := w) (base := base) T
    obtain ⟨x, v, t, b, u, d, rfl, ⟨ax, dx, rfl, hx⟩, hv, st, sb, su, sd, q⟩ := h
    refine ⟨_, PSs.nox (pss_cons (ps_asg (PB.pe_callF O_fraction (hr.mono (by decide)) pas0 (pa_cons (pv 1) pa_nil)) (pg_tup rfl (pgs_cons (pg_name (i := 2) sc_Ratio_DgeD.nd rfl (Or.inl rfl)) (pgs_cons (pg_name (i := 3) sc_Ratio_DgeD.nd rfl (Or.inl rfl)) pgs_nil))))
      (pss_one (ps_ret (pe_cmpR op_ge (pe_op op_mulW (pe_fld (pv 0) rfl) (pv 3)) (pe_op op_mulW (pv 2) (pe_fld (pv 0) rfl)) (nomark _))))), ?_⟩
    try dsimp only [cxOf, Cx.nox, Cx.wish]
    rw [show ∀ z0 z1 : V, L2.start ["self", "other", "top", "bottom"] [z0, z1] = [some z0, some z1, none, none] from fun _ _ => rfl]
    walk_at "pb"
    refine ⟨v, u, d, rfl, hv, fun p H1 k1 hp => ?_⟩
    replace hx := k1.at_ _ _ (by simp) hx
    refine i_gtup (SqT.of hp) rfl ?_
    walk_at "pb"
    refine i_fldR hx T.cls_Ratio T.noat_Ratio_top rfl ?_
    walk_at "pb"
    refine i_rI (mul2 st sd) ?_
    walk_at "pb"
    refine i_fldR hx T.cls_Ratio T.noat_Ratio_bottom rfl ?_
    refine i_rI (mul2 su sb) ?_
    walk_at "pb"
    exact q _ k1
/-- the six answers, by the sign of g -/
def sixOf (g : Int) : List V := [.bl (decide (g = 0)), .bl (decide (g ≠ 0)), .bl (decide (g < 0)), .bl (decide (g ≤ 0)), .bl (decide (g > 0)), .bl (decide (g ≥ 0))]
/-- g has the sign of the difference -/
def SgOf (hi1 lo1 hi2 lo2 g : Int) : Prop := ∀ t b u d : Int, 0 < b → 0 < d → t * lo1 = hi1 * b → u * lo2 = hi2 * d → (t * d = u * b ↔ g = 0) ∧ (t * d < u * b ↔ g < 0)
def spCompd (K : PySem.W.Frag) : Sp := fun vs H Q _ => ∃ (v1 v2 : V) (hi1 lo1 hi2 lo2 g : Int), vs = [v1, v2] ∧ RV K H v1 hi1 lo1 ∧ RI K H v2 hi2 lo2 ∧ lo1 ≠ 0 ∧ lo2 ≠ 0 ∧ hi1.natAbs < 2 ^ 1000 ∧ lo1.natAbs < 2 ^ 1000 ∧ hi2.natAbs < 2 ^ 1000 ∧ lo2.natAbs < 2 ^ 1000 ∧ SgOf hi1 lo1 hi2 lo2 g ∧
  ∀ p H', Keep [] H H' → H' p = some (.lst (sixOf g)) → Q (.ref p) H'
theorem RI.fr {K : PySem.W.Frag} {H : Hp} {v : V} {hi lo : Int} (r : RI K H v hi lo) (n : lo ≠ 0) : ∃ u d, FrV K H v u d ∧ 0 < d ∧ u * lo = hi * d ∧ u.natAbs ≤ hi.natAbs ∧ d.natAbs ≤ lo.natAbs := by
  rcases r with ⟨u, d, i, e⟩ | ⟨rfl, rfl⟩
  · exact ⟨u, d, .inl i, e.pos, e.eq, e.st n, e.sb n⟩
  · exact ⟨hi, 1, .inr ⟨rfl, rfl⟩, by decide, rfl, Nat.le_refl _, Nat.le_refl _⟩
theorem FrV.own {K : PySem.W.Frag} {H : Hp} {v1 v2 : V} {a1 b1 a2 b2 : Int} {sp : Sp} {W : WX} {σ : L2.St} {Q : VK} (r1 : IsR K H v1 a1 b1) (r2 : FrV K H v2 a2 b2) (h : sp [v1, v2] H Q (WE W σ)) : rOwn (He.ga K "Ratio") sp W σ v1 v2 H Q := by
  obtain ⟨a, dx, rfl, ha⟩ := r1
  rcases r2 with ⟨a2, dx2, rfl, ha2⟩ | ⟨rfl, rfl⟩
  · exact i_own ha ha2 h
  · exact i_ownI ha h
theorem ok_l_compared {P : Program} {w : World} {K : PySem.W.Frag} {mg : Str → Option Value} {base : Heap} (T : Tx K mg) : OkF P w K mg base CX0 4 "_law_compared" ["_law_one", "_law_other"] [] ((spCompd K)) := by
  obtain ⟨fd, F⟩ := T.d_l_compared
  refine ⟨fd, [], F.ok sc_l_compared (fun vs H Q E h => ?len) (fun cdv A outer s H vs Q E hr h => ?body), T.g_l_compared, F.kp, F.bindsN fun _ _ _ _ _ _ us hl => match us, hl with | [_, _], _ => rfl, .nil⟩
  case len =>
    obtain ⟨v1, v2, hi1, lo1, hi2, lo2, g, rfl, _⟩ := h
    rfl
  case body =>
    have O_Ratio_DeqD := ok_Ratio_DeqD (P := P) (w := w) (base := base) T
    have O_Ratio_DltD := ok_Ratio_DltD (P := P) (w := w) (base := base) T
    have O_Ratio_DleD := ok_Ratio_DleD (P := P) (w := w) (base := base) T
    have O_Ratio_DgtD := ok_Ratio_DgtD (P := P) (w := w) (base := base) T
    have O_Ratio_DgeD := ok_Ratio_DgeD (P := P) (w := w) (base := base) T
    obtain ⟨v1, v2, hi1, lo1, hi2, lo2, g, rfl, ⟨t, b, r1, e1⟩, r2, n1, n2, s1, s2, s3, s4, hg, q⟩ := h
    obtain ⟨u, d, rv, hd, e2, z1, z2⟩ := r2.fr n2
    have st : t.natAbs < 2 ^ 1000 := Nat.lt_of_le_of_lt (e1.st n1) s1
    have sb : b.natAbs < 2 ^ 1000 := Nat.lt_of_le_of_lt (e1.sb n1) s2
    have su : u.natAbs < 2 ^ 1000 := Nat.lt_of_le_of_lt z1 s3
    have sd : d.natAbs < 2 ^ 1000 := Nat.lt_of_le_of_lt z2 s4
    obtain ⟨g1, g2⟩ := hg t b u d e1.pos hd e1.eq e2
    refine ⟨_, PSs.nox (pss_one (ps_ret (pe_lst (pa_cons (pe_cmpS (op_cmpOwn rfl rfl O_Ratio_DeqD T.own_Ratio (hr.mono (by decide)) pas0) (pv 0) (pv 1) (nomark _)) (pa_cons (pe_cmpS (op_neOwn O_Ratio_DeqD T.own_Ratio T.ne_Ratio (hr.mono (by decide)) pas0) (pv 0) (pv 1) (nomark _)) (pa_cons (pe_cmpS (op_cmpOwn rfl rfl O_Ratio_DltD T.own_Ratio (hr.mono (by decide)) pas0) (pv 0) (pv 1) (nomark _)) (pa_cons (pe_cmpS (op_cmpOwn rfl rfl O_Ratio_DleD T.own_Ratio (hr.mono (by decide)) pas0) (pv 0) (pv 1) (nomark _)) (pa_cons (pe_cmpS (op_cmpOwn rfl rfl O_Ratio_DgtD T.own_Ratio (hr.mono (by decide)) pas0) (pv 0) (pv 1) (nomark _)) (pa_cons (pe_cmpS (op_cmpOwn rfl rfl O_Ratio_DgeD T.own_Ratio (hr.mono (by decide)) pas0) (pv 0) (pv 1) (nomark _)) pa_nil))))))))), ?_⟩
    try dsimp only [cxOf, Cx.nox, Cx.wish]
    rw [show ∀ z0 z1 : V, L2.start ["_law_one", "_law_other"] [z0, z1] = [some z0, some z1] from fun _ _ => rfl]
    walk_at "pb"
    refine FrV.own r1 rv ⟨_, _, t, b, u, d, rfl, r1, rv, st, sb, su, sd, fun H1 k1 => ?_⟩
    replace r1 := r1.keep k1
    replace rv := rv.keep k1
    walk_at "pb"
    refine FrV.own r1 rv ⟨_, _, t, b, u, d, rfl, r1, rv, st, sb, su, sd, fun H2 k2 => ⟨_, rfl, ?_⟩⟩
    replace r1 := r1.keep k2
    replace rv := rv.keep k2
    replace k2 := k1.trans k2
    walk_at "pb"
    refine FrV.own r1 rv ⟨_, _, t, b, u, d, rfl, r1, rv, st, sb, su, sd, fun H3 k3 => ?_⟩
    replace r1 := r1.keep k3
    replace rv := rv.keep k3
    replace k3 := k2.trans k3
    walk_at "pb"
    refine FrV.own r1 rv ⟨_, _, t, b, u, d, rfl, r1, rv, st, sb, su, sd, fun H4 k4 => ?_⟩
    replace r1 := r1.keep k4
    replace rv := rv.keep k4
    replace k4 := k3.trans k4
    walk_at "pb"
    refine FrV.own r1 rv ⟨_, _, t, b, u, d, rfl, r1, rv, st, sb, su, sd, fun H5 k5 => ?_⟩
    replace r1 := r1.keep k5
    replace rv := rv.keep k5
    replace k5 := k4.trans k5
    walk_at "pb"
    refine FrV.own r1 rv ⟨_, _, t, b, u, d, rfl, r1, rv, st, sb, su, sd, fun H6 k6 => ?_⟩
    replace k6 := k5.trans k6
    walk_at "pb"
    refine i_lstR (by walk_at "sz") fun p H7 _ k7 hp => q p H7 (k6.trans k7) ?_
    rw [hp, sixOf]
    have a1 : decide (V.int (t * d) = V.int (u * b)) = decide (g = 0) := decide_eq_decide.mpr (by rw [V.int.injEq]; exact g1)
    have a2 : (!decide (V.int (t * d) = V.int (u * b))) = decide (g ≠ 0) := by rw [a1]; simp
    have a3 : decide (t * d < u * b) = decide (g < 0) := decide_eq_decide.mpr g2
    have a4 : decide (t * d ≤ u * b) = decide (g ≤ 0) := decide_eq_decide.mpr (by omega)
    have a5 : decide (t * d > u * b) = decide (g > 0) := decide_eq_decide.mpr (by omega)
    have a6 : decide (t * d ≥ u * b) = decide (g ≥ 0) := decide_eq_decide.mpr (by omega)
    show some (HO.lst [V.bl (decide (V.int (t * d) = V.int (u * b))), V.bl (!decide (V.int (t * d) = V.int (u * b))), V.bl (decide (t * d < u * b)), V.bl (decide (t * d ≤ u * b)), V.bl (decide (t * d > u * b)), V.bl (decide (t * d ≥ u * b))]) = _
    rw [a2, a1, a3, a4, a5, a6]
def spDue6 : Sp := fun vs H Q _ => ∃ g : Int, vs = [.int g] ∧ ∀ p H', Keep [] H H' → H' p = some (.lst (sixOf g)) → Q (.ref p) H'
theorem ok_l_due {P : Program} {w : World} {K : PySem.W.Frag} {mg : Str → Option Value} {base : Heap} (T : Tx K mg) : OkF P w K mg base CX0 1 "_law_due" ["_law_gap"] [] (spDue6) := by
  obtain ⟨fd, F⟩ := T.d_l_due
  refine ⟨fd, [], F.ok sc_l_due (fun vs H Q E h => ?len) (fun cdv A outer s H vs Q E hr h => ?body), T.g_l_due, F.kp, F.bindsN fun _ _ _ _ _ _ us hl => match us, hl with | [_], _ => rfl, .nil⟩
  case len =>
    obtain ⟨g, rfl, _⟩ := h
    rfl
  case body =>
    obtain ⟨g, rfl, q⟩ := h
    refine ⟨_, PSs.nox (pss_one (ps_ret (pe_lst (pa_cons (pe_cmpR op_eq (pv 0) pe_int (nomark _)) (pa_cons (pe_cmpR op_ne (pv 0) pe_int (nomark _)) (pa_cons (pe_cmpR op_lt (pv 0) pe_int (nomark _)) (pa_cons (pe_cmpR op_le (pv 0) pe_int (nomark _)) (pa_cons (pe_cmpR op_gt (pv 0) pe_int (nomark _)) (pa_cons (pe_cmpR op_ge (pv 0) pe_int (nomark _)) pa_nil))))))))), ?_⟩
    try dsimp only [cxOf, Cx.nox, Cx.wish]
    rw [show ∀ z0 : V, L2.start ["_law_gap"] [z0] = [some z0] from fun _ => rfl]
    walk_at "pb"
    refine i_lstR (by walk_at "sz") fun p H1 _ k1 hp => q p H1 k1 ?_
    rw [hp, sixOf]
    have a1 : decide (V.int g = V.int 0) = decide (g = 0) := decide_eq_decide.mpr (by rw [V.int.injEq])
    have a2 : (!decide (V.int g = V.int 0)) = decide (g ≠ 0) := by rw [a1]; simp
    rw [a2, a1]
def spText : Sp := fun vs H Q _ => ∃ hi lo : Int, vs = [.int hi, .int lo] ∧ lo ≠ 0 ∧ hi.natAbs < 2 ^ 1000 ∧ lo.natAbs < 2 ^ 1000 ∧ ∀ t b : Int, Red hi lo t b → Q (.str (ratText t b)) H
theorem ok_l_text {P : Program} {w : World} {K : PySem.W.Frag} {mg : Str → Option Value} {base : Heap} (T : Tx K mg) : OkF P w K mg base CX0 2 "_law_text" ["_law_high", "_law_low"] [] (spText) := by
  obtain ⟨fd, F⟩ := T.d_l_text
  refine ⟨fd, [], F.ok sc_l_text (fun vs H Q E h => ?len) (fun cdv A outer s H vs Q E hr h => ?body), T.g_l_text, F.kp, F.bindsN fun _ _ _ _ _ _ us hl => match us, hl with | [_, _], _ => rfl, .nil⟩
  case len =>
    obtain ⟨hi, lo, rfl, _⟩ := h
    rfl
  case body =>
    have O_l_m_divisor := ok_l_m_divisor (P := P) (w := w) (base := base) T
    obtain ⟨hi, lo, rfl, hlo, s1, s2, q⟩ := h
    refine ⟨_, PSs.nox (pss_cons (ps_set (i := 2) sc_l_text.nd rfl (Or.inl rfl) (PB.pe_callF O_l_m_divisor (hr.mono (by decide)) pas0 (pa_cons (pv 0) (pa_cons (pv 1) pa_nil))))
      (C8.pss_cut (ps_set (i := 2) sc_l_text.nd rfl (Or.inl rfl) (pe_ifExp (pt_cmpR op_lt (pv 1) pe_int (nomark _)) (pe_un un_neg (pv 2)) (pv 2)))
      (pss_cons (ps_if (pt_cmpR op_eq (pe_op PB.op_fdivG (pv 1) (pv 2)) pe_int (nomark _)) (pss_one (ps_ret (pe_callTy PB.call_strI (by rfl) T.f_str (by decide +kernel) (pa_cons (pe_op PB.op_fdivG (pv 0) (pv 2)) pa_nil)))) pss_nil)
      (pss_one (ps_ret (pe_op op_addS (pe_op op_addS (pe_callTy PB.call_strI (by rfl) T.f_str (by decide +kernel) (pa_cons (pe_op PB.op_fdivG (pv 0) (pv 2)) pa_nil)) pe_str) (pe_callTy PB.call_strI (by rfl) T.f_str (by decide +kernel) (pa_cons (pe_op PB.op_fdivG (pv 1) (pv 2)) pa_nil)))))))), ?_⟩
    try dsimp only [cxOf, Cx.nox, Cx.wish]
    rw [show ∀ z0 z1 : V, L2.start ["_law_high", "_law_low", "_law_common"] [z0, z1] = [some z0, some z1, none] from fun _ _ => rfl]
    walk_at "pb"
    refine ⟨hi, lo, rfl, ?_⟩
    walk_at "pb"
    refine i_cut (fun σ' H' => H' = H ∧ ∃ c : Int, σ' = [some (.int hi), some (.int lo), some (.int c)] ∧ c.natAbs = Int.gcd hi lo ∧ (lo < 0 → c ≤ 0) ∧ (¬ lo < 0 → 0 ≤ c)) ?_ ?_
    · walk_at "pb"
      refine b_dec (fun hn => ?_) (fun hn => ?_)
      · walk_at "pb"
        exact ⟨rfl, _, rfl, by omega, by omega, by omega⟩
      · walk_at "pb"
        exact ⟨rfl, _, rfl, by omega, by omega, by omega⟩
    rintro σ' H' ⟨rfl, c, rfl, hc, hs⟩
    obtain ⟨hc0, hr⟩ := red_of hlo hc hs
    have hcb : c.natAbs < 2 ^ 9000 := by
      rw [hc]
      refine pow_mono (Nat.lt_of_le_of_lt ?_ s2) (by decide)
      exact Nat.le_of_dvd (by omega) (Int.natCast_dvd_natCast.mp (by rw [Int.dvd_natAbs]; exact Int.gcd_dvd_right ..))
    have st := Nat.lt_of_le_of_lt (hr.st hlo) s1
    have sb := Nat.lt_of_le_of_lt (hr.sb hlo) s2
    replace q := q _ _ hr
    have lt := len_int (sz_mono st (by decide))
    have lb := len_int (sz_mono sb (by decide))
    walk_at "pb"
    refine i_rI ⟨hc0, hcb⟩ ?_
    walk_at "pb"
    refine b_eqI (fun h1 => ?_) (fun h1 => ?_)
    · walk_at "pb"
      refine i_rI ⟨hc0, hcb⟩ ?_
      walk_at "pb"
      refine i_strI (sz_mono st (by decide)) ?_
      rw [ratText, if_pos h1] at q
      exact q
    · walk_at "pb"
      refine i_rI ⟨hc0, hcb⟩ ?_
      walk_at "pb"
      refine i_strI (sz_mono st (by decide)) ?_
      walk_at "pb"
      refine i_addS (by rw [len_sl]; exact sz_le (by omega)) ?_
      walk_at "pb"
      refine i_rI ⟨hc0, hcb⟩ ?_
      walk_at "pb"
      refine i_strI (sz_mono sb (by decide)) ?_
      refine i_addS (by rw [Str.length_append, len_sl]; exact sz_le (by omega)) ?_
      rw [ratText, if_neg h1] at q
      exact q
def spLaw (K : PySem.W.Frag) : Sp := fun vs H Q _ => ∃ (a : Addr) (ns : List Int), vs = [.ref a] ∧ SqL K H a (ns.map V.int) ∧ ns.length ≤ 63 ∧ ∀ H', Q (.bl true) H'
theorem sign_eq {A p B q : Int} (hp : 0 < p) (hq : 0 < q) (e : A * p = B * q) : (A = 0 ↔ B = 0) ∧ (A < 0 ↔ B < 0) := by
  rcases Int.lt_trichotomy A 0 with h | h | h
  · have h1 : A * p < 0 := Int.mul_neg_of_neg_of_pos h hp
    have h2 : B < 0 := by
      rcases (show B < 0 ∨ 0 ≤ B by omega) with z | z
      · exact z
      · have := Int.mul_nonneg z (Int.le_of_lt hq)
        omega
    omega
  · subst h
    rw [Int.zero_mul] at e
    have : B = 0 := by
      rcases Int.mul_eq_zero.mp e.symm with z | z
      · exact z
      · omega
    omega
  · have h1 : 0 < A * p := Int.mul_pos h hp
    have h2 : 0 < B := by
      rcases (show 0 < B ∨ B ≤ 0 by omega) with z | z
      · exact z
      · have := Int.mul_nonpos_of_nonpos_of_nonneg z (Int.le_of_lt hq)
        omega
    omega
theorem sg_of {hi1 lo1 hi2 lo2 z g : Int} (hz : (0 < lo1 * lo2 ∧ z = 1) ∨ (lo1 * lo2 < 0 ∧ z = -1)) (hg : g = (hi1 * lo2 - hi2 * lo1) * z) : SgOf hi1 lo1 hi2 lo2 g := by
  intro t b u d hb hd e1 e2
  have k1 : (t * d - u * b) * (lo1 * lo2) = (hi1 * lo2 - hi2 * lo1) * (b * d) := by
    have a1 : (t * d - u * b) * (lo1 * lo2) = (t * lo1) * (d * lo2) - (u * lo2) * (b * lo1) := by walk_at "rng"
    rw [a1, e1, e2]
    walk_at "rng"
  have k2 : (t * d - u * b) * (lo1 * lo2 * z) = g * (b * d) := by
    rw [hg, ← Int.mul_assoc, k1]
    walk_at "rng"
  have hp : 0 < lo1 * lo2 * z := by
    rcases hz with ⟨h, rfl⟩ | ⟨h, rfl⟩
    · rw [Int.mul_one]; exact h
    · rw [Int.mul_neg, Int.mul_one]; omega
  have := sign_eq hp (Int.mul_pos hb hd) k2
  omega
theorem Red.uniq {p q t b t' b' : Int} (hq : q ≠ 0) (h : Red p q t b) (h' : Red p q t' b') : t = t' ∧ b = b' := by
  have e : t * b' = t' * b := by
    refine Int.eq_of_mul_eq_mul_right hq ?_
    have a1 : t * b' * q = (t * q) * b' := by walk_at "rng"
    have a2 : t' * b * q = (t' * q) * b := by walk_at "rng"
    rw [a1, a2, h.eq, h'.eq]
    walk_at "rng"
  have e' : t.natAbs * b'.natAbs = t'.natAbs * b.natAbs := by rw [← Int.natAbs_mul, ← Int.natAbs_mul, e]
  have c : Nat.Coprime b.natAbs t.natAbs := by rw [Nat.coprime_comm]; exact h.low
  have c' : Nat.Coprime b'.natAbs t'.natAbs := by rw [Nat.coprime_comm]; exact h'.low
  have d1 : b.natAbs ∣ b'.natAbs := c.dvd_of_dvd_mul_left ⟨t'.natAbs, by rw [e', Nat.mul_comm]⟩
  have d2 : b'.natAbs ∣ b.natAbs := c'.dvd_of_dvd_mul_left ⟨t.natAbs, by rw [← e', Nat.mul_comm]⟩
  have eb : b.natAbs = b'.natAbs := Nat.dvd_antisymm d1 d2
  have p1 := h.pos
  have p2 := h'.pos
  have eb' : b = b' := by omega
  subst eb'
  exact ⟨Int.eq_of_mul_eq_mul_right (by omega) e, rfl⟩
theorem six_same {H : Hp} {a b : Addr} {g : Int} (ha : H a = some (.lst (sixOf g))) (hb : H b = some (.lst (sixOf g))) : Sm H 5 (.ref a) (.ref b) :=
  .lstS ha hb (fun x hx => by
    simp only [sixOf, List.mem_cons, List.not_mem_nil, or_false] at hx
    rcases hx with rfl | rfl | rfl | rfl | rfl | rfl <;> trivial) (by simp [sixOf])
theorem ok_law {P : Program} {w : World} {K : PySem.W.Frag} {mg : Str → Option Value} {base : Heap} (T : Tx K mg) {fd : FuncData} (F : FunD K "law" "law" (defArgs (topS 14)) (defBody (topS 14)) (defScope (topS 14)) [] [] (He.ga K "law") fd) : FnOk P w K mg base CX0 9 (He.ga K "law") fd ["_law_script"] (spLaw K) := by
  refine F.ok sc_law (fun vs H Q E h => ?len) (fun cdv A outer s H vs Q E hr h => ?body)
  case len =>
    obtain ⟨a, ns, rfl, _⟩ := h
    rfl
  case body =>
    have O_l_start := ok_l_start (P := P) (w := w) (base := base) T
    have O_l_m_number := ok_l_m_number (P := P) (w := w) (base := base) T
    have O_l_draw := ok_l_draw (P := P) (w := w) (base := base) T
    have O_Ratio := ok_Ratio_DinitD_all (P := P) (w := w) (base := base) T
    have O_l_due := ok_l_due (P := P) (w := w) (base := base) T
    have O_l_compared := ok_l_compared (P := P) (w := w) (base := base) T
    have O_l_same := ok_l_same (P := P) (w := w) (base := base) T
    have O_l_text := ok_l_text (P := P) (w := w) (base := base) T
    have O_Ratio_1 := ok_Ratio_DinitD_1 (P := P) (w := w) (base := base) T
    have O_Ratio_DboolD := ok_Ratio_DboolD (P := P) (w := w) (base := base) T
    have O_Ratio_DstrD := ok_Ratio_DstrD (P := P) (w := w) (base := base) T
    obtain ⟨a, ns, rfl, hs, hl, q⟩ := h
    refine ⟨_, PSs.nox (pss_cons (ps_set (i := 1) sc_law.nd rfl (Or.inl rfl) (PB.pe_callF O_l_start (hr.mono (by decide)) pas0 (pa_cons (pv 0) pa_nil)))
      (pss_cons (ps_par (i := 2) (j := 3) (by rfl) sc_law.nd rfl rfl (by decide) rfl rfl (pa_cons (PB.pe_callF O_l_m_number (hr.mono (by decide)) pas0 (pa_cons (pv 1) pa_nil)) (pa_cons (PB.pe_callF O_l_m_number (hr.mono (by decide)) pas0 (pa_cons (pv 1) pa_nil)) pa_nil)) (by rfl))
      (pss_cons (ps_set (i := 4) sc_law.nd rfl (Or.inl rfl) (PB.pe_callF O_l_m_number (hr.mono (by decide)) pas0 (pa_cons (pv 1) pa_nil)))
      (pss_cons (ps_par (i := 5) (j := 6) (by rfl) sc_law.nd rfl rfl (by decide) rfl rfl (pa_cons (PB.pe_callF O_l_m_number (hr.mono (by decide)) pas0 (pa_cons (pv 1) pa_nil)) (pa_cons (PB.pe_callF O_l_m_number (hr.mono (by decide)) pas0 (pa_cons (pv 1) pa_nil)) pa_nil)) (by rfl))
      (C8.pss_cut (ps_par (i := 5) (j := 6) (by rfl) sc_law.nd rfl rfl (by decide) rfl rfl (pa_cons (pe_ifExp (pt_cmpR op_ne (pv 5) pe_int (nomark _)) (pv 5) pe_int) (pa_cons (pe_ifExp (pt_cmpR op_ne (pv 6) pe_int (nomark _)) (pv 6) (pe_un un_neg pe_int)) pa_nil)) (by rfl))
      (pss_cons (ps_set (i := 7) sc_law.nd rfl (Or.inl rfl) (PB.pe_callF O_l_draw (hr.mono (by decide)) pas0 (pa_cons (pv 1) (pa_cons pe_int pa_nil))))
      (C8.pss_cut (ps_if (pt_cmpR op_eq (pv 7) pe_int (nomark _)) (pss_cons (ps_set (i := 8) sc_law.nd rfl (Or.inl rfl) (pe_op op_add pe_int (PB.pe_callF O_l_draw (hr.mono (by decide)) pas0 (pa_cons (pv 1) (pa_cons pe_int pa_nil)))))
      (pss_one (ps_par (i := 3) (j := 6) (by rfl) sc_law.nd rfl rfl (by decide) rfl rfl (pa_cons (pe_op op_sub (pe_op op_add (pe_op op_mulW (pv 2) (pv 8)) (PB.pe_callF O_l_draw (hr.mono (by decide)) pas0 (pa_cons (pv 1) (pa_cons pe_int pa_nil)))) pe_int) (pa_cons (pe_op op_mulW (pv 5) (pv 8)) pa_nil)) (by rfl)))) pss_nil)
      (C8.pss_cut (ps_if (pt_cmpR op_eq (PB.pe_callF O_l_draw (hr.mono (by decide)) pas0 (pa_cons (pv 1) (pa_cons pe_int pa_nil))) pe_int (nomark _)) (pss_one (ps_set (i := 4) sc_law.nd rfl (Or.inl rfl) (pe_op PB.op_fdivG (pv 2) (pv 5)))) pss_nil)
      (pss_cons (ps_par (i := 9) (j := 10) (by rfl) sc_law.nd rfl rfl (by decide) rfl rfl (pa_cons (PB.pe_makeF O_Ratio (hr.mono (by decide)) (pasT takes0) (pa_cons (pv 2) (pa_cons (pv 5) pa_nil))) (pa_cons (PB.pe_makeF O_Ratio (hr.mono (by decide)) (pasT takes0) (pa_cons (pv 3) (pa_cons (pv 6) pa_nil))) pa_nil)) (by rfl))
      (C8.pss_cut (ps_set (i := 11) sc_law.nd rfl (Or.inl rfl) (pe_ifExp (pt_cmpR op_gt (pe_op op_mulW (pv 5) (pv 6)) pe_int (nomark _)) pe_int (pe_un un_neg pe_int)))
      (pss_cons (ps_set (i := 12) sc_law.nd rfl (Or.inl rfl) (pe_op op_mulW (pe_op op_sub (pe_op op_mulW (pv 2) (pv 6)) (pe_op op_mulW (pv 3) (pv 5))) (pv 11)))
      (pss_cons (ps_if (pt_not (pt_val (PB.pe_callF O_l_same (hr.mono (by decide)) pas0 (pa_cons (PB.pe_callF O_l_compared (hr.mono (by decide)) pas0 (pa_cons (pv 9) (pa_cons (pv 10) pa_nil))) (pa_cons (PB.pe_callF O_l_due (hr.mono (by decide)) pas0 (pa_cons (pv 12) pa_nil)) pa_nil))))) (pss_one (ps_ret pe_bl)) pss_nil)
      (pss_cons (ps_if (pt_not (pt_val (PB.pe_callF O_l_same (hr.mono (by decide)) pas0 (pa_cons (PB.pe_callF O_l_compared (hr.mono (by decide)) pas0 (pa_cons (pv 10) (pa_cons (pv 9) pa_nil))) (pa_cons (PB.pe_callF O_l_due (hr.mono (by decide)) pas0 (pa_cons (pe_un un_neg (pv 12)) pa_nil)) pa_nil))))) (pss_one (ps_ret pe_bl)) pss_nil)
      (C8.pss_cut (ps_set (i := 13) sc_law.nd rfl (Or.inl rfl) (pe_op op_mulW (pe_op op_sub (pv 2) (pe_op op_mulW (pv 4) (pv 5))) (pe_ifExp (pt_cmpR op_gt (pv 5) pe_int (nomark _)) pe_int (pe_un un_neg pe_int))))
      (pss_cons (ps_if (pt_not (pt_val (PB.pe_callF O_l_same (hr.mono (by decide)) pas0 (pa_cons (PB.pe_callF O_l_compared (hr.mono (by decide)) pas0 (pa_cons (pv 9) (pa_cons (pv 4) pa_nil))) (pa_cons (PB.pe_callF O_l_due (hr.mono (by decide)) pas0 (pa_cons (pv 13) pa_nil)) pa_nil))))) (pss_one (ps_ret pe_bl)) pss_nil)
      (pss_cons (ps_if (pt_not (pt_val (PB.pe_callF O_l_same (hr.mono (by decide)) pas0 (pa_cons (PB.pe_callF O_l_compared (hr.mono (by decide)) pas0 (pa_cons (pv 9) (pa_cons (pv 9) pa_nil))) (pa_cons (PB.pe_callF O_l_due (hr.mono (by decide)) pas0 (pa_cons pe_int pa_nil)) pa_nil))))) (pss_one (ps_ret pe_bl)) pss_nil)
      (pss_cons (ps_if (PW.pt (pw_or (pt_cmpR op_ne (pe_callTyS (call_boolOwn O_Ratio_DboolD (hr.mono (by decide)) pas0) (by rfl) T.f_bool (by decide +kernel) (pa_cons (pv 9) pa_nil)) (pe_cmpR op_ne (pv 2) pe_int (nomark _)) (nomark _)) (pw_or1 (pt_val (pe_callTyS (call_boolOwn O_Ratio_DboolD (hr.mono (by decide)) pas0) (by rfl) T.f_bool (by decide +kernel) (pa_cons (PB.pe_makeF O_Ratio (hr.mono (by decide)) (pasT takes0) (pa_cons pe_int (pa_cons (pv 6) pa_nil))) pa_nil)))))) (pss_one (ps_ret pe_bl)) pss_nil)
      (pss_cons (ps_if (PW.pt (pw_or (pt_cmpR op_ne (pe_callTyS (call_strOwn O_Ratio_DstrD (hr.mono (by decide)) pas0) (by rfl) T.f_str (by decide +kernel) (pa_cons (pv 9) pa_nil)) (PB.pe_callF O_l_text (hr.mono (by decide)) pas0 (pa_cons (pv 2) (pa_cons (pv 5) pa_nil))) (nomark _)) (pw_or1 (pt_cmpR op_ne (pe_callTyS (call_strOwn O_Ratio_DstrD (hr.mono (by decide)) pas0) (by rfl) T.f_str (by decide +kernel) (pa_cons (pv 10) pa_nil)) (PB.pe_callF O_l_text (hr.mono (by decide)) pas0 (pa_cons (pv 3) (pa_cons (pv 6) pa_nil))) (nomark _))))) (pss_one (ps_ret pe_bl)) pss_nil)
      (pss_one (ps_ret (pe_cmpR op_eq (pe_callTyS (call_strOwn O_Ratio_DstrD (hr.mono (by decide)) pas0) (by rfl) T.f_str (by decide +kernel) (pa_cons (PB.pe_makeF O_Ratio_1 (hr.mono (by decide)) (pasT takes0) (pa_cons (pv 4) pa_nil)) pa_nil)) (pe_callTy PB.call_strI (by rfl) T.f_str (by decide +kernel) (pa_cons (pv 4) pa_nil)) (nomark _)))))))))))))))))))))), ?_⟩
    try dsimp only [cxOf, Cx.nox, Cx.wish]
    rw [show ∀ z0 : V, L2.start ["_law_script", "_law_stream", "_law_high", "_law_other", "_law_whole", "_law_low", "_law_under", "_law_near", "_law_by", "_law_one", "_law_two", "_law_sign", "_law_gap", "_law_rest"] [z0] = [some z0, none, none, none, none, none, none, none, none, none, none, none, none, none] from fun _ => rfl]
    walk_at "pb"
    refine ⟨a, ns, rfl, hs, hl, fun S l H1 _ _ k1 hS => ?_⟩
    walk_at "pb"
    refine ⟨S, l, 0, rfl, by omega, hS, fun H2 hi k2 hS bhi => ?_⟩
    walk_at "pb"
    refine ⟨S, l, 2, rfl, by omega, hS, fun H3 ot k3 hS bot => ?_⟩
    walk_at "pb"
    refine ⟨S, l, 4, rfl, by omega, hS, fun H4 wh k4 hS bwh => ?_⟩
    walk_at "pb"
    refine ⟨S, l, 6, rfl, by omega, hS, fun H5 lo k5 hS blo => ?_⟩
    walk_at "pb"
    refine ⟨S, l, 8, rfl, by omega, hS, fun H6 un k6 hS bun => ?_⟩
    walk_at "pb"
    clear k1 k2 k3 k4 k5 k6
    refine i_cut (fun σ' H' => H' = H6 ∧ ∃ lo un : Int, σ' = [some (.ref a), some (.ref S), some (.int hi), some (.int ot), some (.int wh), some (.int lo), some (.int un), none, none, none, none, none, none, none] ∧ lo ≠ 0 ∧ lo.natAbs < 2 ^ 150 ∧ un ≠ 0 ∧ un.natAbs < 2 ^ 150) ?_ ?_
    · walk_at "pb"
      refine b_neI (fun h1 => ?_) (fun h1 => ?_)
      · walk_at "pb"
        refine b_neI (fun h2 => ?_) (fun h2 => ?_)
        · walk_at "pb"
          exact ⟨rfl, _, _, rfl, h1, blo, h2, bun⟩
        · walk_at "pb"
          exact ⟨rfl, _, _, rfl, h1, blo, by decide, by decide +kernel⟩
      · walk_at "pb"
        refine b_neI (fun h2 => ?_) (fun h2 => ?_)
        · walk_at "pb"
          exact ⟨rfl, _, _, rfl, by decide, by decide +kernel, h2, bun⟩
        · walk_at "pb"
          exact ⟨rfl, _, _, rfl, by decide, by decide +kernel, by decide, by decide +kernel⟩
    clear blo bun lo un
    rintro σ' H' ⟨rfl, lo, un, rfl, hlo, blo, hun, bun⟩
    walk_at "pb"
    refine ⟨S, l, 10, 3, rfl, by decide, by decide +kernel, by omega, hS, fun H7 near k7 hS h0 h4 => ?_⟩
    walk_at "pb"
    refine i_cut (fun σ' H' => ∃ (n : Nat) (ot un : Int) (z : Option V), n ≤ 20 ∧ Stm S l n H' ∧ σ' = [some (.ref a), some (.ref S), some (.int hi), some (.int ot), some (.int wh), some (.int lo), some (.int un), some (.int near), z, none, none, none, none, none] ∧ ot.natAbs < 2 ^ 200 ∧ un ≠ 0 ∧ un.natAbs < 2 ^ 200) ?_ ?_
    · walk_at "pb"
      refine b_eqI (fun h1 => ?_) (fun h1 => ?_)
      · walk_at "pb"
        refine ⟨S, l, 11, 1000, rfl, by decide, by decide +kernel, by omega, hS, fun H8 r k8 hS h0 h4 => ?_⟩
        have br : (1 + r).natAbs < 2 ^ 20 := by
          rw [show (2 : Nat) ^ 20 = 1048576 by decide]
          omega
        walk_at "pb"
        refine i_rI (wide_mul bhi br (by decide) (by decide) (by decide)) ?_
        walk_at "pb"
        refine ⟨S, l, 12, 3, rfl, by decide, by decide +kernel, by omega, hS, fun H9 r2 k9 hS h0 h4 => ?_⟩
        walk_at "pb"
        refine i_rI (wide_mul blo br (by decide) (by decide) (by decide)) ?_
        walk_at "pb"
        refine ⟨13, _, _, _, by decide, hS, rfl, ?_, Int.mul_ne_zero hlo (by omega), sz_mul blo br (by decide)⟩
        have b2' : r2.natAbs < 2 ^ 2 := by
          rw [show (2 : Nat) ^ 2 = 4 by decide]
          omega
        exact sz_sub (a := 180) (b := 1) (sz_add (sz_mul bhi br (Nat.le_refl _)) b2' (by decide) (by decide)) (by decide) (by decide) (by decide)
      · walk_at "pb"
        exact ⟨11, _, _, _, by decide, hS, rfl, sz_mono bot (by decide), hun, sz_mono bun (by decide)⟩
    clear hS k7 bot ot hun bun un
    rintro σ' H7 ⟨n, ot, un, z, hn, hS, rfl, bot, hun, bun⟩
    refine i_cut (fun σ' H' => ∃ wh : Int, σ' = [some (.ref a), some (.ref S), some (.int hi), some (.int ot), some (.int wh), some (.int lo), some (.int un), some (.int near), z, none, none, none, none, none] ∧ wh.natAbs < 2 ^ 200) ?_ ?_
    · walk_at "pb"
      refine ⟨S, l, n, 3, rfl, by decide, by decide +kernel, by omega, hS, fun H8 r k8 hS h0 h4 => ?_⟩
      walk_at "pb"
      refine b_eqI (fun h1 => ?_) (fun h1 => ?_)
      · walk_at "pb"
        refine i_rI ⟨hlo, sz_mono blo (by decide)⟩ ?_
        walk_at "pb"
        exact ⟨_, rfl, Nat.lt_of_le_of_lt (sz_fdiv _ _) (sz_mono bhi (by decide))⟩
      · walk_at "pb"
        exact ⟨_, rfl, sz_mono bwh (by decide)⟩
    clear hS bwh wh
    rintro σ' H8 ⟨wh, rfl, bwh⟩
    have bhi2 : hi.natAbs < 2 ^ 200 := sz_mono bhi (by decide)
    have blo2 : lo.natAbs < 2 ^ 200 := sz_mono blo (by decide)
    walk_at "pb"
    refine use_makeR hlo (sz_mono bhi (by decide)) (sz_mono blo (by decide)) fun x1 H9 k9 r1 => ?_
    walk_at "pb"
    refine use_makeR hun (sz_mono bot (by decide)) (sz_mono bun (by decide)) fun x2 H10 k10 r2 => ?_
    replace r1 := r1.keep k10
    walk_at "pb"
    refine i_cut (fun σ' H' => H' = H10 ∧ ∃ sg : Int, σ' = [some (.ref a), some (.ref S), some (.int hi), some (.int ot), some (.int wh), some (.int lo), some (.int un), some (.int near), z, some (.ref x1), some (.ref x2), some (.int sg), none, none] ∧ ((0 < lo * un ∧ sg = 1) ∨ (lo * un < 0 ∧ sg = -1))) ?_ ?_
    · walk_at "pb"
      refine i_rI (wide_mul blo bun (by decide) (by decide) (by decide)) ?_
      walk_at "pb"
      have hne := Int.mul_ne_zero hlo hun
      refine b_dec (fun h1 => ?_) (fun h1 => ?_)
      · walk_at "pb"
        exact ⟨rfl, _, rfl, .inl ⟨h1, rfl⟩⟩
      · walk_at "pb"
        exact ⟨rfl, _, rfl, .inr ⟨by omega, rfl⟩⟩
    rintro σ' H' ⟨rfl, sg, rfl, hsg⟩
    have bsg : sg.natAbs < 2 ^ 2 := by
      rw [show (2 : Nat) ^ 2 = 4 by decide]
      omega
    walk_at "pb"
    refine i_rI (wide_mul bhi bun (by decide) (by decide) (by decide)) ?_
    walk_at "pb"
    refine i_rI (wide_mul bot blo (by decide) (by decide) (by decide)) ?_
    walk_at "pb"
    refine i_rI (wide_mul (a := 401) (b := 2) (sz_sub (sz_mul bhi2 bun (Nat.le_refl _)) (sz_mul bot blo2 (Nat.le_refl _)) (by decide) (by decide)) bsg (by decide) (by decide) (by decide)) ?_
    walk_at "pb"
    have sg1 : SgOf hi lo ot un ((hi * un - ot * lo) * sg) := sg_of hsg rfl
    have sg2 : SgOf ot un hi lo (-((hi * un - ot * lo) * sg)) := by
      rw [Int.mul_comm lo un] at hsg
      refine sg_of hsg ?_
      walk_at "rng"
    have sg0 : SgOf hi lo hi lo 0 := by
      intro t b u d hb hd e1 e2
      have k1 : (t * d - u * b) * (lo * lo) = 0 * (b * d) := by
        have a1 : (t * d - u * b) * (lo * lo) = (t * lo) * (d * lo) - (u * lo) * (b * lo) := by walk_at "rng"
        rw [a1, e1, e2]
        walk_at "rng"
      have hp : 0 < lo * lo := by
        rcases Int.lt_or_gt_of_ne hlo with h | h
        · have := Int.mul_pos (show 0 < -lo by omega) (show 0 < -lo by omega)
          rw [Int.neg_mul_neg] at this
          exact this
        · exact Int.mul_pos h h
      have := sign_eq hp (Int.mul_pos hb hd) k1
      omega
    generalize (hi * un - ot * lo) * sg = g at sg1 sg2
    refine ⟨_, _, hi, lo, ot, un, g, rfl, r1, .inl r2, hlo, hun, sz_mono bhi (by decide), sz_mono blo (by decide), sz_mono bot (by decide), sz_mono bun (by decide), sg1, fun p1 H11 k11 hp1 => ?_⟩
    walk_at "pb"
    refine ⟨g, rfl, fun p2 H12 k12 hp2 => ?_⟩
    walk_at "pb"
    refine ⟨_, _, rfl, six_same (k12.at_ _ _ (by simp) hp1) hp2, fun H13 k13 => ?_⟩
    replace k13 := (k11.trans k12).trans k13
    replace r1 := r1.keep k13
    replace r2 := r2.keep k13
    clear k11 k12 k13 hp1 hp2
    walk_at "pb"
    refine ⟨_, _, ot, un, hi, lo, -g, rfl, r2, .inl r1, hun, hlo, sz_mono bot (by decide), sz_mono bun (by decide), sz_mono bhi (by decide), sz_mono blo (by decide), sg2, fun p1 H11 k11 hp1 => ?_⟩
    walk_at "pb"
    refine ⟨-g, rfl, fun p2 H12 k12 hp2 => ?_⟩
    walk_at "pb"
    refine ⟨_, _, rfl, six_same (k12.at_ _ _ (by simp) hp1) hp2, fun H14 k13 => ?_⟩
    replace k13 := (k11.trans k12).trans k13
    replace r1 := r1.keep k13
    replace r2 := r2.keep k13
    clear k11 k12 k13 hp1 hp2
    walk_at "pb"
    refine i_cut (fun σ' H' => H' = H14 ∧ ∃ z1 : Int, σ' = [some (.ref a), some (.ref S), some (.int hi), some (.int ot), some (.int wh), some (.int lo), some (.int un), some (.int near), z, some (.ref x1), some (.ref x2), some (.int sg), some (.int g), some (.int ((hi - wh * lo) * z1))] ∧ ((0 < lo * 1 ∧ z1 = 1) ∨ (lo * 1 < 0 ∧ z1 = -1))) ?_ ?_
    · walk_at "pb"
      refine i_rI (wide_mul bwh blo (by decide) (by decide) (by decide)) ?_
      walk_at "pb"
      have b3' : (hi - wh * lo).natAbs < 2 ^ 401 := sz_sub bhi (sz_mul bwh blo2 (Nat.le_refl _)) (by decide) (by decide)
      refine b_dec (fun h1 => ?_) (fun h1 => ?_)
      · walk_at "pb"
        refine i_rI (wide_mul (b := 2) b3' (by decide) (by decide) (by decide) (by decide)) ?_
        walk_at "pb"
        exact ⟨rfl, 1, rfl, .inl ⟨by omega, rfl⟩⟩
      · walk_at "pb"
        refine i_rI (wide_mul (b := 2) b3' (by decide) (by decide) (by decide) (by decide)) ?_
        walk_at "pb"
        exact ⟨rfl, -1, rfl, .inr ⟨by omega, rfl⟩⟩
    rintro σ' H' ⟨rfl, z1, rfl, hz1⟩
    have sg3 : SgOf hi lo wh 1 ((hi - wh * lo) * z1) := sg_of hz1 (by rw [Int.mul_one])
    generalize (hi - wh * lo) * z1 = g3 at sg3
    walk_at "pb"
    refine ⟨_, _, hi, lo, wh, 1, g3, rfl, r1, .inr ⟨rfl, rfl⟩, hlo, by decide, sz_mono bhi (by decide), sz_mono blo (by decide), sz_mono bwh (by decide), by decide +kernel, sg3, fun p1 H11 k11 hp1 => ?_⟩
    walk_at "pb"
    refine ⟨g3, rfl, fun p2 H12 k12 hp2 => ?_⟩
    walk_at "pb"
    refine ⟨_, _, rfl, six_same (k12.at_ _ _ (by simp) hp1) hp2, fun H15 k13 => ?_⟩
    replace k13 := (k11.trans k12).trans k13
    replace r1 := r1.keep k13
    replace r2 := r2.keep k13
    clear k11 k12 k13 hp1 hp2
    walk_at "pb"
    refine ⟨_, _, hi, lo, hi, lo, 0, rfl, r1, .inl r1, hlo, hlo, sz_mono bhi (by decide), sz_mono blo (by decide), sz_mono bhi (by decide), sz_mono blo (by decide), sg0, fun p1 H11 k11 hp1 => ?_⟩
    walk_at "pb"
    refine ⟨0, rfl, fun p2 H12 k12 hp2 => ?_⟩
    walk_at "pb"
    refine ⟨_, _, rfl, six_same (k12.at_ _ _ (by simp) hp1) hp2, fun H16 k13 => ?_⟩
    replace k13 := (k11.trans k12).trans k13
    replace r1 := r1.keep k13
    replace r2 := r2.keep k13
    clear k11 k12 k13 hp1 hp2
    walk_at "pb"
    obtain ⟨t1, b1', ⟨c1, dx1, e1, hc1⟩, rd1⟩ := id r1
    cases e1
    refine ⟨_, rfl, i_own1 hc1 ⟨_, t1, b1', rfl, ⟨_, _, rfl, hc1⟩, ⟨_, rfl, ?_⟩⟩⟩
    walk_at "pb"
    have eb : (t1 != 0) = !decide (V.int hi = V.int 0) := by
      have h1 : t1 = 0 ↔ hi = 0 := by
        constructor
        · rintro rfl
          have := rd1.eq
          rw [Int.zero_mul] at this
          rcases Int.mul_eq_zero.mp this.symm with h | h
          · exact h
          · have := rd1.pos
            omega
        · rintro rfl
          have := rd1.eq
          rw [Int.zero_mul] at this
          rcases Int.mul_eq_zero.mp this with h | h
          · exact h
          · exact absurd h hlo
      by_cases h : hi = 0
      · rw [h1.mpr h, h]
        simp
      · have h2 : t1 ≠ 0 := fun z => h (h1.mp z)
        simp [h, h2]
    rw [eb]
    walk_at "pb"
    refine use_makeR hun (by decide +kernel) (sz_mono bun (by decide)) fun x3 H17 k17 r3 => ?_
    walk_at "pb"
    obtain ⟨t3, b3', ⟨c3, dx3, e3, hc3⟩, rd3⟩ := r3
    cases e3
    have t30 : t3 = 0 := by
      have := rd3.eq
      rw [Int.zero_mul] at this
      rcases Int.mul_eq_zero.mp this with h | h
      · exact h
      · exact absurd h hun
    refine ⟨_, rfl, i_own1 hc3 ⟨_, t3, b3', rfl, ⟨_, _, rfl, hc3⟩, ⟨_, rfl, ?_⟩⟩⟩
    rw [t30]
    rw [show ((0 : Int) != 0) = false by decide]
    walk_at "pb"
    replace hc1 := k17.at_ _ _ (by simp) hc1
    replace r2 := r2.keep k17
    obtain ⟨t2, b2', ⟨c2, dx2, e2, hc2⟩, rd2⟩ := r2
    cases e2
    refine ⟨_, rfl, i_own1 hc1 ⟨_, t1, b1', rfl, ⟨_, _, rfl, hc1⟩, sz_mono (Nat.lt_of_le_of_lt (rd1.st hlo) bhi) (by decide), sz_mono (Nat.lt_of_le_of_lt (rd1.sb hlo) blo) (by decide), ⟨_, rfl, ?_⟩⟩⟩
    walk_at "pb"
    refine ⟨hi, lo, rfl, hlo, sz_mono bhi (by decide), sz_mono blo (by decide), fun t b hr => ?_⟩
    obtain ⟨rfl, rfl⟩ := rd1.uniq hlo hr
    walk_at "pb"
    refine ⟨_, rfl, i_own1 hc2 ⟨_, t2, b2', rfl, ⟨_, _, rfl, hc2⟩, sz_mono (Nat.lt_of_le_of_lt (rd2.st hun) bot) (by decide), sz_mono (Nat.lt_of_le_of_lt (rd2.sb hun) bun) (by decide), ⟨_, rfl, ?_⟩⟩⟩
    walk_at "pb"
    refine ⟨ot, un, rfl, hun, sz_mono bot (by decide), sz_mono bun (by decide), fun t b hr => ?_⟩
    obtain ⟨rfl, rfl⟩ := rd2.uniq hun hr
    walk_at "pb"
    refine use_makeR (q := 1) (by decide) (sz_mono bwh (by decide)) (by decide +kernel) fun x4 H18 k18 r4 => ?_
    walk_at "pb"
    obtain ⟨t4, b4', ⟨c4, dx4, e4, hc4⟩, rd4⟩ := r4
    cases e4
    obtain ⟨rfl, rfl⟩ := rd4.uniq (by decide) (show Red wh 1 wh 1 from ⟨by decide, by simp, rfl⟩)
    refine ⟨_, rfl, i_own1 hc4 ⟨_, t4, 1, rfl, ⟨_, _, rfl, hc4⟩, sz_mono bwh (by decide), by decide +kernel, ⟨_, rfl, ?_⟩⟩⟩
    walk_at "pb"
    refine i_strI (sz_mono bwh (by decide)) ?_
    walk_at "pb"
    rw [ratText, if_pos rfl, decide_eq_true rfl]
    exact q _
end Lw
namespace Lw
open PySem PySem.Spec PyProof.Rows L2 PB
abbrev R : PySem.W.OpenRow := PySem.W.OpenLaw.row PySem.Challenge.rw_pairahead_k03_ratio_comparisons
abbrev hk : PySem.W.Hook := PB.hookP 5 fa fn bs
def ob (s : PySem.W.SharedT) : Bool × He.AlD := PB.obsP 5 fa fn bs (HandSHeadRun.getT s)
theorem ob_eq (s : PySem.W.SharedT) : ob s = hk.obs s.abs := PB.obsP_eq (HandSHeadRun.getT_eq s)
def loose : List PySem.Str := (["_wall", "divisor", "fraction", "Ratio", "_law_draw", "_law_start", "_law_same", "_law_m_number", "_law_m_divisor", "_law_compared", "_law_due", "_law_text"] : List PySem.Str)
theorem run (w : World) : HandSHeadRun.RunEq R (PySem.W.view R.prog [14]) hk ob 3000 loose w := by
  intro os
  kernel_rfl
end Lw
open PySem PySem.W PySem.Calls PyProof.Rows
set_option maxHeartbeats 0 in
theorem PySem.Challenge.cw_pairahead_k03_ratio_comparisons_holds : PySem.Challenge.rw_pairahead_k03_ratio_comparisons.Holds := by
  w_on; o_law
  refine HandSHeadRun.head_any (r := OpenLaw.row PySem.Challenge.rw_pairahead_k03_ratio_comparisons) (q := view (OpenLaw.row PySem.Challenge.rw_pairahead_k03_ratio_comparisons).prog [14]) (H := Lw.hk) (ob := Lw.ob) (M := 3000) (loose := Lw.loose) (d := HandSHeadRun.topDef (OpenLaw.row PySem.Challenge.rw_pairahead_k03_ratio_comparisons).prog 14) (kwd := []) Lw.ob_eq
    (by kernel_rfl) (fun s => by kernel_rfl) Lw.run (by kernel_rfl) (by kernel_rfl) (by kernel_rfl) (by rfl) (by first | assumption | decide +kernel) (by decide +kernel) ⟨rfl, rfl, rfl, rfl, rfl, by decide +kernel⟩ ?hw ?hc
  case hw => w_witness2
  case hc =>
    refine L2.walk_ofE (l := PySem.Challenge.rw_pairahead_k03_ratio_comparisons) (n := 63) (k := 9) (x := "_law_script") (CX := L2.CX0) rfl (by decide) (by kernel_rfl) ⟨rfl, by decide, by decide⟩ ?F (fun _ _ _ _ z => z)
    intro w mg fa h Y G hmg0
    obtain ⟨K, KX, c⟩ := Y
    have hmg : mg ("law" : PySem.Str) = some (.ref fa) := by
      have e : (HandSHeadRun.topDef (OpenLaw.row PySem.Challenge.rw_pairahead_k03_ratio_comparisons).prog 14).name = ("law" : PySem.Str) := by kernel_rfl
      rw [← e]
      exact hmg0
    have T := Lw.tx_of KX G c
    have e := hmg.symm.trans T.g_law
    cases e
    obtain ⟨fd, F⟩ := T.d_law
    have b := L2.FunD.bindsA (ps := ["_law_script"]) F fun _ _ _ _ _ _ us hl => match us, hl with | [_], _ => rfl
    exact ⟨K, fd, Lw.spLaw K, KX, fun s v => b s [v] rfl, fun H a ns hl _ hS => ⟨a, ns, rfl, hS, hl, fun _ => rfl⟩, fun base _ _ => Lw.ok_law T F⟩
