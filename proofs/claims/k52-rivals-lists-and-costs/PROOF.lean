import PyProof.Rows.All
import Wide.All
import OpenK.AllK
import Wide.FinOn
import KE.KStateDown
import Lean
import HandS.ForMost
import HandS.ForExc
import HandS.More
import HandS.Wide
import HandS.WideMore
import HandS.Flow
import HandS.Style
import HandS.IsInst
import HandS.TryMany
import HandS.TryElse
import HandS.ExcBuiltin
import HandS.ExcSuper
import HandS.ExcField
import HandS.ExcIs
import HandS.RaiseMore
import HandS.SuiteRaise
import HandS.EndBits
import HandS.Property
import HandS.MakeKw
import HandS.MakeKwOnly
import HandS.FStr
import HandS.Zip
import HandS.Conv
import HandS.Deep
import HandS.OwnEq
import HandS.Strs
import HandS.Small
import HandS.TupAny
import HandS.TupLe
import HandS.ClsMeth
import HandS.CallRecv
import HandS.Codes
import HandS.Evl
import HandS.Steps
import HandS.Defaults
import HandS.Head0
import HandS.Head1
import HandS.Head2
import HandS.HeadEnd
import HandS.HeadHook1
import HandS.HeadHook2
import PySem.Challenge.RW_pairahead_k52_rivals_lists_and_costs
set_option Elab.async false
set_option linter.all false
set_option maxRecDepth 100000
set_option maxHeartbeats 4000000
namespace PB
open PySem PySem.Spec PyProof.Rows L2

/-! ## defs by names -/
def OkF (P : Program) (w : World) (K : PySem.W.Frag) (mg : Str → Option Value) (base : Heap) (CX : CXT) (k : Nat) (x : Str) (ps : List Str) (dvs : List V) (sp : Sp) : Prop :=
  ∃ (fd : FuncData) (ds : List Value), FnOk P w K mg base CX k (He.ga K x) fd ps sp ∧ mg x = some (.ref (He.ga K x)) ∧ PySem.W.keepIn K (.ref (He.ga K x)) = true ∧ Binds K fd ps ds ∧ Vals dvs ds
def OkM (P : Program) (w : World) (K : PySem.W.Frag) (mg : Str → Option Value) (base : Heap) (CX : CXT) (k : Nat) (c m : Str) (ps : List Str) (dvs : List V) (sp : Sp) : Prop :=
  ∃ (fd : FuncData) (ds : List Value), FnOk P w K mg base CX k (He.ma K (He.ga K c) m) fd ps sp ∧ Cls K (He.ga K c) ∧ Meth K (He.ga K c) m (He.ma K (He.ga K c) m) ∧ Binds K fd ps ds ∧ Vals dvs ds
/-- C(..): the class's maker and its __init__ -/
def OkC (P : Program) (w : World) (K : PySem.W.Frag) (mg : Str → Option Value) (base : Heap) (CX : CXT) (k : Nat) (c : Str) (ps : List Str) (dvs : List V) (sp : Sp) : Prop :=
  ∃ (fd : FuncData) (ds : List Value), FnOk P w K mg base CX k (He.ma K (He.ga K c) "__init__") fd ps sp ∧ mg c = some (.ref (He.ga K c)) ∧ Mk K (He.ga K c) (He.ma K (He.ga K c) "__init__") ∧ Binds K fd ps ds ∧ Vals dvs ds
/-! calls; W: what is wished of an exception, by the caller's slots -/
abbrev W0 : WX := fun _ _ _ _ => False
def tCallG (sp : Sp) (dvs : List V) (W : WX) (t : TA) : TE := fun σ H Q => t σ H fun vs H1 => sp (vs ++ dvs) H1 Q (WE W σ)
def tMethG (C : Addr) (m : Str) (sp : Sp) (dvs : List V) (W : WX) (ta : TE) (t : TA) : TE := fun σ H Q => ta σ H fun x H1 => ∃ a dx fs, x = .ref a ∧ H1 a = some (.ins C dx fs) ∧ fs.lookup m = none ∧
  t σ H1 fun vs H2 => sp (x :: (vs ++ dvs)) H2 Q (WE W σ)
def tMakeG (C : Addr) (sp : Sp) (dvs : List V) (W : WX) (t : TA) : TE := fun σ H Q => t σ H fun vs H1 => ∀ x dx, H1 x = none → H1 dx = none → dx ≠ x →
  sp (.ref x :: (vs ++ dvs)) (upd (upd H1 dx (.own x)) x (.ins C dx [])) (fun v H2 => v = .non ∧ Q (.ref x) H2) (WE W σ)
section
variable {X : Cx} {CX : CXT} {k : Nat} {f C : Addr} {fd : FuncData} {x c m : Str} {ps : List Str} {dvs : List V} {ds : List Value} {sp : Sp} {W : WX} {E : XK} {p pos apos : Pos} {e o : Expr} {es : List Expr} {t : TA} {ta : TE}
theorem pas0 : ∀ σ, PassesAt CX0 X σ (WE W0 σ) := fun _ _ _ _ _ _ _ h => h.elim
theorem pasT (tk : Takes X W) : ∀ σ, PassesAt (L2.CX X.prog X.w) X σ (WE W σ) := fun σ => passAt tk σ
theorem OkF.mono {P w K mg base j} (O : OkF P w K mg base CX j x ps dvs sp) (h : j ≤ k) : OkF P w K mg base CX k x ps dvs sp :=
  let ⟨fd, ds, F, a, b, c, d⟩ := O; ⟨fd, ds, F.mono h, a, b, c, d⟩
theorem OkM.mono {P w K mg base j} (O : OkM P w K mg base CX j c m ps dvs sp) (h : j ≤ k) : OkM P w K mg base CX k c m ps dvs sp :=
  let ⟨fd, ds, F, a, b, c, d⟩ := O; ⟨fd, ds, F.mono h, a, b, c, d⟩
/-- the callee runs, somewhere below this body -/
theorem run_fnA {A' : Around} (hA : A'.frames = X.A.frames) {pins : List (Addr × Obj)} {σ : L2.St} {H : Hp} {s : Shared} {Q : VK} {us : List Value} {vs : List V} (F : FnOk X.prog X.w X.K X.mg X.base CX k f fd ps sp) (hr : Room k A') (hb : Binds X.K fd ps ds) (hd : Vals dvs ds) (hx : PassesAt CX X σ E)
    (I : Inv X pins σ H s) (r : Vals vs us) (h : sp (vs ++ dvs) H Q E) : wpAny (model X.prog X.w) A' (call (.ref f) us) (EP X pins σ Q) X.xe s := by
  have r2 : Vals (vs ++ dvs) (us ++ ds) := r.append hd
  have hl : (us ++ ds).length = ps.length := r2.length.symm.trans (F.len _ _ _ _ h)
  have e0 := I.env0
  have e1 : Env0 X.prog X.w X.K X.mg X.base A' X.stack s H := ⟨hA.trans e0.frames, e0.mod, e0.bs, e0.bsz, e0.funs, e0.frf, e0.hok, e0.bare⟩
  have run := F.run A' X.stack s H ⟨us, []⟩ (us ++ ds) (vs ++ dvs) Q E hr e1 (hb s us I.kIn hl) r2 h
  refine wpAny_call (codeAny_mono run fun r s' hq => ?_)
  match r, hq with
  | .error e, hq => exact hx pins H s e s' I hq
  | .ok (.ret u), hq => exact I.after hq
theorem run_makeA {pins : List (Addr × Obj)} {σ : L2.St} {H : Hp} {s : Shared} {Q : VK} {us : List Value} {vs : List V} (M : Mk X.K C f) (F : FnOk X.prog X.w X.K X.mg X.base CX k f fd ps sp) (hr : Room (k + 1) X.A) (hb : Binds X.K fd ps ds) (hd : Vals dvs ds)
    (hx : PassesAt CX X σ E) (I : Inv X pins σ H s) (r : Vals vs us)
    (h : ∀ x dx, H x = none → H dx = none → dx ≠ x → sp (.ref x :: (vs ++ dvs)) (upd (upd H dx (.own x)) x (.ins C dx [])) (fun v H2 => v = .non ∧ Q (.ref x) H2) E) :
    wpAny (model X.prog X.w) X.A (call (.ref C) us) (EP X pins σ Q) X.xe s := by
  have fresh : ∀ b, s.heap.objs.size ≤ b → H b = none := fun b hb => I.hok.fresh hb
  have hq := h (s.heap.objs.size + 1) s.heap.objs.size (fresh _ (Nat.le_succ _)) (fresh _ (Nat.le_refl _)) (Nat.ne_of_lt (Nat.lt_succ_self _))
  have I2 := Inv.made (C := C) I
  have r2 : Vals (V.ref (s.heap.objs.size + 1) :: (vs ++ dvs)) (Value.ref (s.heap.objs.size + 1) :: (us ++ ds)) := .cons rfl (r.append hd)
  have hl : (Value.ref (s.heap.objs.size + 1) :: us ++ ds).length = ps.length := r2.length.symm.trans (F.len _ _ _ _ hq)
  have run := F.run _ X.stack _ _ ⟨Value.ref (s.heap.objs.size + 1) :: us, []⟩ (Value.ref (s.heap.objs.size + 1) :: (us ++ ds)) _ _ E (hr.make C us []) (I2.env0.make C us []) (hb _ (Value.ref (s.heap.objs.size + 1) :: us) I2.kIn hl) r2 hq
  refine wpAny_call (make_map (f := f) I.kIn M.makes M.init (beq_iff_eq.mp M.fn) (codeAny_mono run fun r s' hq' => ?_))
  match r, hq' with
  | .error e, hq' => exact hx pins _ _ e s' I2 hq'
  | .ok (.ret u), hq' =>
    obtain ⟨v, H', I3, rv, ev, q3⟩ := I2.after hq'
    subst ev
    exact ⟨rv, ⟨V.ref (s.heap.objs.size + 1), H', I3, rfl, q3⟩⟩
theorem pe_callF (O : OkF X.prog X.w X.K X.mg X.base CX k x ps dvs sp) (hr : Room k X.A) (hx : ∀ σ, PassesAt CX X σ (WE W σ)) (ha : PA X (e :: es) t) (hg : Gl X x := by rfl)
    (hdb : (x == ("__debug__" : Str)) = false := by decide) (he : starEach (e :: es) X.env = (false, eval e X.env) :: starEach es X.env := by rfl) (hpl : (backTo pos (starEach es X.env)).any (·.1) = false := by rfl) :
    PE X (.Call (.Name x p) (e :: es) [] pos) (tCallG sp dvs W t) := by
  obtain ⟨fd, ds, F, hm, hk, hb, hd⟩ := O
  refine ⟨fun pins s σ H Q I h => wpAny_Call_Name_kw (ld_glob I hg hm ?_ hdb)⟩
  have ev := thn (ha.run pos pins s σ H _ I h) fun us s1 ⟨vs, H1, I1, r, q⟩ => (⟨I1.kIn, run_fnA rfl F hr hb hd (hx σ) I1 r q⟩ : _ ∧ _)
  exact PySem.W.callWith_K (h₀ := X.base) I.ok.mod.kin hk ev he hpl
theorem pe_callF0 (O : OkF X.prog X.w X.K X.mg X.base CX k x ps dvs sp) (hr : Room k X.A) (hx : ∀ σ, PassesAt CX X σ (WE W σ)) (hg : Gl X x := by rfl)
    (hdb : (x == ("__debug__" : Str)) = false := by decide) : PE X (.Call (.Name x p) [] [] pos) (tCallG sp dvs W tNil) := by
  obtain ⟨fd, ds, F, hm, hk, hb, hd⟩ := O
  refine ⟨fun pins s σ H Q I h => wpAny_Call_Name_kw (ld_glob I hg hm ?_ hdb)⟩
  exact PySem.W.callWith_K0 I.kIn hk (run_fnA rfl (us := []) F hr hb hd (hx σ) I .nil h)
theorem pe_methF {pl : Sem Bool} (O : OkM X.prog X.w X.K X.mg X.base CX k c m ps dvs sp) (hr : Room k X.A) (hx : ∀ σ, PassesAt CX X σ (WE W σ)) (he : PE X o ta) (ha : PA X (e :: es) t)
    (hst : starEach (e :: es) X.env = (false, eval e X.env) :: starEach es X.env := by rfl) (hpl : (backTo pos (starEach es X.env)).any (·.1) = false := by rfl)
    (ht : eval (.Call (.Attribute o m apos) (e :: es) [] pos) X.env = (do
      let ov ← eval o X.env
      standAt apos.atName
      let (f, first) ← holding [ov] (getMethod ov m pl)
      callWith pos f first (backTo pos (starEach (e :: es) X.env)) (backToKw pos (keywordEach [] X.env))) := by rfl) :
    PE X (.Call (.Attribute o m apos) (e :: es) [] pos) (tMethG (He.ga X.K c) m sp dvs W ta t) := by
  obtain ⟨fd, ds, F, hc, hm, hb, hd⟩ := O
  refine ⟨fun pins s σ H Q I h => PySem.W.methodCall_KW (pl := pl) (thn (he.run pins s σ H _ I h) fun u s1 hu => ?_) ht⟩
  obtain ⟨x, H1, I1, rx, a, dx, fs, ex, ea, l, q⟩ := hu
  subst ex
  cases rx
  refine getmeth_ok I1 ea hc hm l ?_
  have ev := thn (ha.run pos pins s1 σ H1 _ I1 q) fun us s2 ⟨vs, H2, I2, r, q2⟩ => (⟨I2.kIn, run_fnA rfl (us := .ref a :: us) (vs := .ref a :: vs) F hr hb hd (hx σ) I2 (.cons rfl r) q2⟩ : _ ∧ _)
  exact PySem.W.callWith_K (first := [.ref a]) (h₀ := X.base) I.ok.mod.kin hm.kp ev hst hpl
theorem pe_methF0 {pl : Sem Bool} (O : OkM X.prog X.w X.K X.mg X.base CX k c m ps dvs sp) (hr : Room k X.A) (hx : ∀ σ, PassesAt CX X σ (WE W σ)) (he : PE X o ta)
    (ht : eval (.Call (.Attribute o m apos) [] [] pos) X.env = (do
      let ov ← eval o X.env
      standAt apos.atName
      let (f, first) ← holding [ov] (getMethod ov m pl)
      callWith pos f first (backTo pos (starEach [] X.env)) (backToKw pos (keywordEach [] X.env))) := by rfl) :
    PE X (.Call (.Attribute o m apos) [] [] pos) (tMethG (He.ga X.K c) m sp dvs W ta tNil) := by
  obtain ⟨fd, ds, F, hc, hm, hb, hd⟩ := O
  refine ⟨fun pins s σ H Q I h => PySem.W.methodCall_KW (pl := pl) (thn (he.run pins s σ H _ I h) fun u s1 hu => ?_) ht⟩
  obtain ⟨x, H1, I1, rx, a, dx, fs, ex, ea, l, q⟩ := hu
  subst ex
  cases rx
  refine getmeth_ok I1 ea hc hm l ?_
  exact PySem.W.callWith_K0 (first := [.ref a]) I1.kIn hm.kp (run_fnA rfl (us := [.ref a]) (vs := [.ref a]) F hr hb hd (hx σ) I1 (.cons rfl .nil) q)
theorem pe_makeF (O : OkC X.prog X.w X.K X.mg X.base CX k c ps dvs sp) (hr : Room (k + 1) X.A) (hx : ∀ σ, PassesAt CX X σ (WE W σ)) (ha : PA X (e :: es) t) (hg : Gl X c := by rfl)
    (hdb : (c == ("__debug__" : Str)) = false := by decide) (he : starEach (e :: es) X.env = (false, eval e X.env) :: starEach es X.env := by rfl) (hpl : (backTo pos (starEach es X.env)).any (·.1) = false := by rfl) :
    PE X (.Call (.Name c p) (e :: es) [] pos) (tMakeG (He.ga X.K c) sp dvs W t) := by
  obtain ⟨fd, ds, F, hm, hk, hb, hd⟩ := O
  refine ⟨fun pins s σ H Q I h => wpAny_Call_Name_kw (ld_glob I hg hm ?_ hdb)⟩
  have ev := thn (ha.run pos pins s σ H _ I h) fun us s1 ⟨vs, H1, I1, r, q⟩ => (⟨I1.kIn, run_makeA hk F hr hb hd (hx σ) I1 r q⟩ : _ ∧ _)
  exact PySem.W.callWith_K (h₀ := X.base) I.ok.mod.kin hk.kp ev he hpl
theorem pe_makeF0 (O : OkC X.prog X.w X.K X.mg X.base CX k c ps dvs sp) (hr : Room (k + 1) X.A) (hx : ∀ σ, PassesAt CX X σ (WE W σ)) (hg : Gl X c := by rfl)
    (hdb : (c == ("__debug__" : Str)) = false := by decide) : PE X (.Call (.Name c p) [] [] pos) (tMakeG (He.ga X.K c) sp dvs W tNil) := by
  obtain ⟨fd, ds, F, hm, hk, hb, hd⟩ := O
  refine ⟨fun pins s σ H Q I h => wpAny_Call_Name_kw (ld_glob I hg hm ?_ hdb)⟩
  exact PySem.W.callWith_K0 I.kIn hk.kp (run_makeA (us := []) hk F hr hb hd (hx σ) I .nil h)
/-! an operator that wants the slots -/
def OpRS (X : Cx) (f : Value → Value → Sem Value) (r : L2.St → R2) : Prop :=
  ∀ (pins : List (Addr × Obj)) (s : Shared) (σ : L2.St) (H : Hp) (x y : V) (v u : Value) (Q : VK), Inv X pins σ H s → RelV x v → RelV y u → r σ x y H Q → wpAny (model X.prog X.w) X.A (f v u) (EP X pins σ Q) X.xe s
def UnRS (X : Cx) (f : Value → Sem Value) (r : L2.St → V → Hp → VK → Prop) : Prop :=
  ∀ (pins : List (Addr × Obj)) (s : Shared) (σ : L2.St) (H : Hp) (x : V) (v : Value) (Q : VK), Inv X pins σ H s → RelV x v → r σ x H Q → wpAny (model X.prog X.w) X.A (f v) (EP X pins σ Q) X.xe s
def CallRS (X : Cx) (f : Value) (r : L2.St → List V → Hp → VK → Prop) : Prop :=
  ∀ (pins : List (Addr × Obj)) (s : Shared) (σ : L2.St) (H : Hp) (xs : List V) (us : List Value) (Q : VK), Inv X pins σ H s → Vals xs us → r σ xs H Q → wpAny (model X.prog X.w) X.A (call f us) (EP X pins σ Q) X.xe s
def tOpS (r : L2.St → R2) (ta tb : TE) : TE := fun σ H Q => ta σ H fun x H1 => tb σ H1 fun y H2 => r σ x y H2 Q
def tUnS (r : L2.St → V → Hp → VK → Prop) (ta : TE) : TE := fun σ H Q => ta σ H fun x H1 => r σ x H1 Q
def tCBS (r : L2.St → List V → Hp → VK → Prop) (t : TA) : TE := fun σ H Q => t σ H fun vs H1 => r σ vs H1 Q
variable {a b : Expr} {tb : TE}
theorem pe_opS {op : Operator} {r : L2.St → R2} (ho : OpRS X (binaryOp op) r) (ha : PE X a ta) (hb : PE X b tb) : PE X (.BinOp a op b pos) (tOpS r ta tb) :=
  ⟨fun pins s σ H Q I h => wpAny_BinOp (binT ha hb I h fun v u s2 x y H2 I2 rx ry q => ho pins s2 σ H2 x y v u Q I2 rx ry q)⟩
theorem pe_cmpS {op : CmpOp} {r : L2.St → R2} (ho : OpRS X (compareOp op) r) (ha : PE X a ta) (hb : PE X b tb) (hm : behindInMarks op b = false) : PE X (.Compare a [op] [b] pos) (tOpS r ta tb) :=
  ⟨fun pins s σ H Q I h => wpAny_Compare1 (binT ha hb I h fun v u s2 x y H2 I2 rx ry q => ho pins s2 σ H2 x y v u Q I2 rx ry q) hm⟩
theorem pe_unS {op : UnaryOp} {r : L2.St → V → Hp → VK → Prop} (ho : UnRS X (unaryOp op) r) (ha : PE X a ta) : PE X (.UnaryOp op a pos) (tUnS r ta) :=
  ⟨fun pins s σ H Q I h => UnaryOp_ (thn (ha.run pins s σ H _ I h) fun v s1 ⟨x, H1, I1, r1, q1⟩ => ho pins s1 σ H1 x v Q I1 r1 q1)⟩
theorem pe_callBS {id : String} {r : L2.St → List V → Hp → VK → Prop} (hc : CallRS X (.builtin id) r) (hg : Gl X x) (hm : X.mg x = none) (hv : bootBuiltins x = some (.builtin id)) (ha : PA X (e :: es) t) (hn : x ≠ "__name__" := by decide) (hdb : (x == ("__debug__" : Str)) = false := by decide)
    (he : starEach (e :: es) X.env = (false, eval e X.env) :: starEach es X.env := by rfl) (hpl : (backTo pos (starEach es X.env)).any (·.1) = false := by rfl) : PE X (.Call (.Name x p) (e :: es) [] pos) (tCBS r t) := by
  refine ⟨fun pins s σ H Q I h => wpAny_Call_Name_kw (ld_blt I hg hm hv ?_ hn hdb)⟩
  have ev := thn (ha.run pos pins s σ H _ I h) fun us s1 ⟨vs, H1, I1, r1, q1⟩ => hc pins s1 σ H1 vs us Q I1 r1 q1
  exact PyProof.Rows.callWith_builtin1 ev he hpl
theorem pe_callTyS {T : String} {r : L2.St → List V → Hp → VK → Prop} (hc : CallRS X (.type T) r) (hg : Gl X x) (hm : X.mg x = none) (hv : bootBuiltins x = some (.type T)) (ha : PA X (e :: es) t) (hn : x ≠ "__name__" := by decide) (hdb : (x == ("__debug__" : Str)) = false := by decide)
    (he : starEach (e :: es) X.env = (false, eval e X.env) :: starEach es X.env := by rfl) (hpl : (backTo pos (starEach es X.env)).any (·.1) = false := by rfl) : PE X (.Call (.Name x p) (e :: es) [] pos) (tCBS r t) := by
  refine ⟨fun pins s σ H Q I h => wpAny_Call_Name_kw (ld_blt I hg hm hv ?_ hn hdb)⟩
  have ev := thn (ha.run pos pins s σ H _ I h) fun us s1 ⟨vs, H1, I1, r1, q1⟩ => hc pins s1 σ H1 vs us Q I1 r1 q1
  exact PyProof.Rows.callWith_type1 ev he hpl
end

/-! ## the end: a law, its script's bits told -/
theorem walk_ofEB {l : PySem.W.OpenLaw} {n k : Nat} {q : Program} {loose : List Str} {XP : (Str → Option Value) → Heap → Prop} {YP : World → Heap → Prop} {d : DefRec} {CX : CXT} {x : Str}
    (hn : l.most = some n) (hn2 : n ≤ sizeLine) (hdf : d.params.defaults = []) (hr : Room k callerA)
    (F : ∀ (w : World) (mg : Str → Option Value) (fa : Addr) (h : Heap), YP w h → h.Ns mainGlobals mg → mg d.name = some (.ref fa) →
      ∃ (K : PySem.W.Frag) (fd : FuncData) (sp : Sp), K.In h ∧ (∀ (s : Shared) (u : Value), BindsTo s fd ⟨[u], []⟩ [(x, u)]) ∧
        (∀ (H : Hp) (a : Addr) (ns : List Int), ns.length ≤ n → (∀ z ∈ ns, Builtin.Int.intBits z ≤ 1048576) → Only H → SqL K H a (ns.map V.int) → sp [.ref a] H (fun v _ => v = .bl true) fun _ _ _ => False) ∧
        ∀ base : Heap, K.In base → base.Ns mainGlobals mg → FnOk l.prog w K mg base CX k fa fd [x] sp)
    (hCX : ∀ (H : Hp) (s : Shared) (e : Value) (s' : Shared), CX [] H s (fun _ _ _ => False) e s' → False) :
    PySem.W.WalkO q loose XP YP l.row.toRowW d [] (fun f vs => PySem.call f vs) := by
  refine Att.attach_callB hn hdf fun w s₀ s₁ mg mb fa o pm cd doc a vs ns G Y ho hd hcd hmg hobj hints hlen hbits hg => ?_
  obtain ⟨K, fd, sp, KX, hb, hsp, hF⟩ := F w mg fa _ Y G.T.g hmg
  exact law_call KX G.T.g G.T.b G.T.builtins G.T.nolimit hg hobj hints (Nat.le_trans hlen hn2) hr hF hb (fun H hO hS => hsp H a ns hlen hbits hO hS) fun H e s' => hCX H s₁ e s'

/-! ## union rules -/
theorem OpRor {X : Cx} {f : Value → Value → Sem Value} {r r' : R2} (h : OpR X f r) (h' : OpR X f r') : OpR X f (fun x y H Q => r x y H Q ∨ r' x y H Q) :=
  fun pins s σ H x y v u Q I rx ry q => q.elim (fun q => h pins s σ H x y v u Q I rx ry q) fun q => h' pins s σ H x y v u Q I rx ry q
theorem CallRor {X : Cx} {f : Value} {r r' : List V → Hp → VK → Prop} (h : CallR X f r) (h' : CallR X f r') : CallR X f (fun xs H Q => r xs H Q ∨ r' xs H Q) :=
  fun pins s σ H xs us Q I rx q => q.elim (fun q => h pins s σ H xs us Q I rx q) fun q => h' pins s σ H xs us Q I rx q
/-- // by any divisor below 2 ^ 9000 in size, but 0 -/
def CDivG (_ j : Int) : Prop := j ≠ 0 ∧ j.natAbs < 2 ^ 9000
theorem op_fdivG {X : Cx} : OpR X (binaryOp .FloorDiv) (rI CDivG fun i j => .int (i.fdiv j)) := opI fun _ _ _ _ _ _ _ hc q =>
  floordiv_int hc.1 q (.inl (PyProof.noPylong_of_log2 (PySem.Flt.log2_lt_of (by decide) hc.2)))

/-! ## heaps: what a def keeps -/
def Imm : HO → Prop
  | .tup _ => True
  | .frz _ _ => True
  | _ => False
/-- all but what stands at ms is kept; what never changes is kept everywhere -/
structure Keep (ms : List Addr) (H H' : Hp) : Prop where
  at_ : ∀ b o, b ∉ ms → H b = some o → H' b = some o
  imm : ∀ b o, Imm o → H b = some o → H' b = some o
theorem Keep.refl {ms : List Addr} (H : Hp) : Keep ms H H := ⟨fun _ _ _ h => h, fun _ _ _ h => h⟩
theorem Keep.trans {ms : List Addr} {H H1 H2 : Hp} (a : Keep ms H H1) (b : Keep ms H1 H2) : Keep ms H H2 := ⟨fun c o n h => b.at_ c o n (a.at_ c o n h), fun c o n h => b.imm c o n (a.imm c o n h)⟩
theorem Keep.mono {ms ns : List Addr} {H H1 : Hp} (a : Keep ms H H1) (h : ∀ m ∈ ms, m ∈ ns) : Keep ns H H1 := ⟨fun c o n q => a.at_ c o (fun z => n (h c z)) q, a.imm⟩
theorem Keep.new {ms : List Addr} {H : Hp} {p : Addr} {o : HO} (h : H p = none) : Keep ms H (upd H p o) :=
  ⟨fun b u _ e => by rw [upd_ne (ne_of_none e h)]; exact e, fun b u _ e => by rw [upd_ne (ne_of_none e h)]; exact e⟩
theorem Keep.set {ms : List Addr} {H : Hp} {p : Addr} {o : HO} (hm : p ∈ ms) (h : ∀ u, H p = some u → ¬ Imm u) : Keep ms H (upd H p o) :=
  ⟨fun b u n e => by rw [upd_ne (show b ≠ p from fun z => n (by rw [z]; exact hm))]; exact e, fun b u i e => by
    by_cases hb : b = p
    · subst hb; exact absurd i (h u e)
    · rw [upd_ne hb]; exact e⟩
theorem Keep.set' {ms : List Addr} {H : Hp} {p : Addr} {o u : HO} (hm : p ∈ ms) (h : H p = some u) (n : ¬ Imm u) : Keep ms H (upd H p o) :=
  Keep.set hm fun v e => by rw [h] at e; cases e; exact n
/-- a change of what the start did not know -/
theorem Keep.mut {ms : List Addr} {H H1 : Hp} {p : Addr} {o : HO} (a : Keep ms H H1) (h : H p = none) : Keep ms H (upd H1 p o) :=
  ⟨fun b u n e => by rw [upd_ne (ne_of_none e h)]; exact a.at_ b u n e, fun b u i e => by rw [upd_ne (ne_of_none e h)]; exact a.imm b u i e⟩
theorem Keep.free {ms : List Addr} {H H' : Hp} (e : Keep ms H H') {l : Addr} (hl : l ∉ ms) (h : H' l = none) : H l = none := by
  cases q : H l with
  | none => rfl
  | some o => rw [e.at_ l o hl q] at h; cases h
theorem Keep.same {ms : List Addr} {H H' : Hp} (e : Keep [] H H') : Keep ms H H' := e.mono (by simp)
theorem Keep.seqT {K : PySem.W.Frag} {ms : List Addr} {H H' : Hp} {a : Addr} {xs : List V} (e : Keep ms H H') (h : SqT K H a xs) : SqT K H' a xs := by
  rcases h with (h | ⟨o, h⟩) | h
  · exact .inl (.inl (e.imm _ _ trivial h))
  · exact .inl (.inr ⟨o, e.imm _ _ trivial h⟩)
  · exact .inr h
theorem Keep.seqL {K : PySem.W.Frag} {ms : List Addr} {H H' : Hp} {a : Addr} {xs : List V} (e : Keep ms H H') (ha : a ∉ ms) (h : SqL K H a xs) : SqL K H' a xs := by
  rcases h with (h | ⟨o, h⟩) | h
  · exact .inl (.inl (e.at_ _ _ ha h))
  · exact .inl (.inr ⟨o, e.imm _ _ trivial h⟩)
  · exact .inr h
theorem Keep.fresh1 {ms : List Addr} {H H1 H2 : Hp} {x : Addr} (a : Keep ms H H1) (hx : H x = none) (b : Keep [x] H1 H2) : Keep ms H H2 :=
  ⟨fun c o n e => b.at_ c o (by simpa using ne_of_none e hx) (a.at_ c o n e), fun c o i e => b.imm c o i (a.imm c o i e)⟩
end PB
namespace PB
open PySem PySem.Spec PyProof.Rows L2
section
variable {σ : L2.St} {H : Hp} {Q : VK} {QT : Bool → Hp → Prop} {QA : List V → Hp → Prop} {ta tb te tc : TE} {tt tu : TT} {tA : TA} {v x y : V} {i j : Nat} {D : Ends} {t1 t2 : TS} {K : PySem.W.Frag} {a b C dx : Addr} {fs : List (Str × V)} {f : Str} {sp : Sp} {dvs : List V} {E : XK} {W : WX} {g : TG} {gs : TGs} {wi : TI}
/-! the shapes of readings by names, so that steps unify at once -/
def NewT (xs : List V) (H : Hp) (Q : VK) : Prop := xs.length ≤ sizeLine ∧ ∀ p, H p = none → Q (.ref p) (upd H p (.tup xs))
def NewL (xs : List V) (H : Hp) (Q : VK) : Prop := xs.length ≤ sizeLine ∧ ∀ p, H p = none → Q (.ref p) (upd H p (.lst xs))
def GetF (K : PySem.W.Frag) (f : Str) (x : V) (H : Hp) (Q : VK) : Prop := ∃ a C dx fs v, x = .ref a ∧ H a = some (.ins C dx fs) ∧ Cls K C ∧ NoAttr K C f ∧ fs.lookup f = some v ∧ Q v H
def PutF (K : PySem.W.Frag) (f : Str) (x y : V) (H : Hp) (G : Hp → Prop) : Prop := ∃ a C dx fs, x = .ref a ∧ H a = some (.ins C dx fs) ∧ Cls K C ∧ NoAttr K C f ∧ fs.length < 1000 ∧ G (upd H a (.ins C dx (putF f y fs)))
def GetM (C : Addr) (m : Str) (x : V) (H : Hp) (G : Prop) : Prop := ∃ a dx fs, x = .ref a ∧ H a = some (.ins C dx fs) ∧ fs.lookup m = none ∧ G
def NewI (C : Addr) (sp : Sp) (vs : List V) (E : XK) (H : Hp) (Q : VK) : Prop := ∀ x dx, H x = none → H dx = none → dx ≠ x → sp (.ref x :: vs) (upd (upd H dx (.own x)) x (.ins C dx [])) (fun v H2 => v = .non ∧ Q (.ref x) H2) E
/-! ### readings, a step each -/
theorem i_seq (h : t1 { D with nx := t2 D } σ H) : tSeq t1 t2 D σ H := h
theorem i_cut (Mid : L2.St → Hp → Prop) (h : t1 { D with nx := Mid } σ H) (h2 : ∀ σ' H', Mid σ' H' → t2 D σ' H') : C8.tCut t1 t2 D σ H := ⟨Mid, h, h2⟩
theorem i_next (h : D.nx σ H) : tNext D σ H := h
theorem i_brk (h : D.bk σ H) : tBreak D σ H := h
theorem i_cont (h : D.ct σ H) : tCont D σ H := h
theorem i_asg (h : te σ H fun x H1 => g x σ H1 D.nx) : tAsg te g D σ H := h
theorem i_drop (h : te σ H fun _ H1 => D.nx σ H1) : tDrop te D σ H := h
theorem i_ret (h : te σ H D.rt) : tRet te D σ H := h
theorem i_retN (h : D.rt .non H) : tRetN D σ H := h
theorem i_ifS (h : tt σ H fun b H1 => if b = true then t1 D σ H1 else t2 D σ H1) : tIfS tt t1 t2 D σ H := h
theorem i_gname {G : L2.St → Hp → Prop} (h : G (σ.set i (some v)) H) : gName i v σ H G := h
theorem i_gtup {G : L2.St → Hp → Prop} {n : Nat} {xs : List V} (hs : SqT K H a xs) (hn : xs.length = n) (h : gs xs σ H G) : gTup K n gs (.ref a) σ H G := ⟨a, xs, rfl, hs, hn, h⟩
theorem i_gcons {G : L2.St → Hp → Prop} {r : List V} (h : g v σ H fun σ' H' => gs r σ' H' G) : gCons g gs (v :: r) σ H G := ⟨v, r, rfl, h⟩
theorem i_gnil {G : L2.St → Hp → Prop} (h : G σ H) : gNil [] σ H G := ⟨rfl, h⟩
theorem i_gsub {to ti : TE} {t : TSet} {G : L2.St → Hp → Prop} (h : to σ H fun o H1 => ti σ H1 fun i H2 => t o i v H2 fun H3 => G σ H3) : gSub to ti t v σ H G := h
theorem i_par {tA : TA} (h : tA σ H fun vs H1 => ∃ v w, vs = [v, w] ∧ D.nx ((σ.set i (some v)).set j (some w)) H1) : tPar i j tA D σ H := h
theorem i_par2 {v w : V} {G : V → V → Prop} (h : G v w) : ∃ v' w', [v, w] = [v', w'] ∧ G v' w' := ⟨v, w, rfl, h⟩
theorem i_aug {ti : TIp} (hx : σ[i]? = some (some x)) (h : te σ H fun y H1 => ti x y H1 fun z H2 => D.nx (σ.set i (some z)) H2) : tAug i te ti D σ H := ⟨x, hx, h⟩
theorem i_ipI {F : Int → Int → Int} {m n : Int} (h : Q (.int (F m n)) H) : ipI F (.int m) (.int n) H Q := ⟨m, n, rfl, rfl, h⟩
theorem i_var (hx : σ[i]? = some (some v)) (h : Q v H) : tVar i σ H Q := ⟨v, hx, h⟩
theorem i_c (h : Q v H) : tC v σ H Q := h
theorem i_op {r : R2} (h : ta σ H fun x H1 => tb σ H1 fun y H2 => r x y H2 Q) : tOp r ta tb σ H Q := h
theorem i_un {r : V → Hp → VK → Prop} (h : ta σ H fun x H1 => r x H1 Q) : tUn r ta σ H Q := h
theorem i_rU {G : Int → V} {m : Int} (h : Q (G m) H) : rU G (.int m) H Q := ⟨m, rfl, h⟩
theorem i_rI0 {G : Int → Int → V} {m n : Int} (h : Q (G m n) H) : rI0 G (.int m) (.int n) H Q := ⟨m, n, rfl, rfl, h⟩
theorem i_rI {Cn : Int → Int → Prop} {G : Int → Int → V} {m n : Int} (hc : Cn m n) (h : Q (G m n) H) : rI Cn G (.int m) (.int n) H Q := ⟨m, n, rfl, rfl, hc, h⟩
theorem i_rEq (hs : scal x y = true) (h : Q (.bl (decide (x = y))) H) : rEq x y H Q := ⟨hs, h⟩
theorem i_rNe (hs : scal x y = true) (h : Q (.bl (!decide (x = y))) H) : rNe x y H Q := ⟨hs, h⟩
theorem i_test (h : te σ H fun x H' => ∃ k, x = .bl k ∧ QT k H') : tTest te σ H QT := h
theorem i_B (h : te σ H fun x H' => ∃ k, x = .bl k ∧ QT k H') : tB te σ H QT := h
theorem i_bl {k : Bool} {G : Bool → Prop} (h : G k) : ∃ k', V.bl k = .bl k' ∧ G k' := ⟨k, rfl, h⟩
theorem i_not (h : tt σ H fun c H1 => QT (!c) H1) : tNot tt σ H QT := h
theorem i_and (h : tt σ H fun c H1 => if c = true then tu σ H1 QT else QT false H1) : tAnd tt tu σ H QT := h
theorem i_or (h : tt σ H fun c H1 => if c = true then QT true H1 else tu σ H1 QT) : tOr tt tu σ H QT := h
theorem i_if (h : tt σ H fun c H1 => if c = true then ta σ H1 Q else tb σ H1 Q) : tIf tt ta tb σ H Q := h
theorem i_notV (h : te σ H fun x H1 => ∃ c, x = .bl c ∧ Q (.bl (!c)) H1) : tNotV te σ H Q := h
theorem i_andV (h : ta σ H fun x H1 => ∃ c, x = .bl c ∧ if c = true then tb σ H1 Q else Q (.bl false) H1) : tAndV ta tb σ H Q := h
theorem i_orV (h : ta σ H fun x H1 => ∃ c, x = .bl c ∧ if c = true then Q (.bl true) H1 else tb σ H1 Q) : tOrV ta tb σ H Q := h
theorem i_nil (h : QA [] H) : tNil σ H QA := h
theorem i_cons (h : ta σ H fun x H1 => tA σ H1 fun xs H2 => QA (x :: xs) H2) : tCons ta tA σ H QA := h
theorem i_tup (h : tA σ H fun xs H1 => NewT xs H1 Q) : tTup tA σ H Q := h
theorem i_lst (h : tA σ H fun xs H1 => NewL xs H1 Q) : tLst tA σ H Q := h
theorem i_call (h : tA σ H fun vs H1 => sp (vs ++ dvs) H1 Q (WE W σ)) : tCallG sp dvs W tA σ H Q := h
theorem i_opS {r : L2.St → R2} (h : ta σ H fun x H1 => tb σ H1 fun y H2 => r σ x y H2 Q) : tOpS r ta tb σ H Q := h
theorem i_unS {r : L2.St → V → Hp → VK → Prop} (h : ta σ H fun x H1 => r σ x H1 Q) : tUnS r ta σ H Q := h
theorem i_cbS {r : L2.St → List V → Hp → VK → Prop} (h : tA σ H fun vs H1 => r σ vs H1 Q) : tCBS r tA σ H Q := h
theorem i_cb {r : List V → Hp → VK → Prop} (h : tA σ H fun vs H1 => r vs H1 Q) : tCB r tA σ H Q := h
theorem i_fld (h : ta σ H fun x H1 => GetF K f x H1 Q) : tFld K ta f σ H Q := h
theorem i_fldR (ho : H a = some (.ins C dx fs)) (hc : Cls K C) (hn : NoAttr K C f) (hl : fs.lookup f = some v) (h : Q v H) : GetF K f (.ref a) H Q := ⟨a, C, dx, fs, v, rfl, ho, hc, hn, hl, h⟩
theorem i_meth {m : Str} (h : ta σ H fun x H1 => GetM C m x H1 (tA σ H1 fun vs H2 => sp (x :: (vs ++ dvs)) H2 Q (WE W σ))) : tMethG C m sp dvs W ta tA σ H Q := h
theorem i_methR {m : Str} {G : Prop} (ho : H a = some (.ins C dx fs)) (hl : fs.lookup m = none) (h : G) : GetM C m (.ref a) H G := ⟨a, dx, fs, rfl, ho, hl, h⟩
theorem i_make (h : tA σ H fun vs H1 => NewI C sp (vs ++ dvs) (WE W σ) H1 Q) : tMakeG C sp dvs W tA σ H Q := h
theorem i_sfld {tv : TE} (h : tv σ H fun y H1 => ta σ H1 fun x H2 => PutF K f x y H2 (fun H3 => D.nx σ H3)) : sFld K ta tv f D σ H := h
theorem i_sfldR {G : Hp → Prop} (ho : H a = some (.ins C dx fs)) (hc : Cls K C) (hn : NoAttr K C f) (hl : fs.length < 1000) (h : ∀ H', Keep [a] H H' → H' a = some (.ins C dx (putF f y fs)) → G H') : PutF K f (.ref a) y H G := ⟨a, C, dx, fs, rfl, ho, hc, hn, hl, h _ (Keep.set' (by simp) ho (fun z => z)) upd_same⟩
/-! sequences -/
theorem i_ixL {xs : List V} {n : Int} (hs : SqL K H a xs) (ha : atI xs n = some v) (h : Q v H) : rIxL K (.ref a) (.int n) H Q := ⟨a, xs, n, v, rfl, rfl, hs, ha, h⟩
theorem i_ixT {xs : List V} {n : Int} (hs : SqT K H a xs) (ha : atI xs n = some v) (h : Q v H) : rIxT K (.ref a) (.int n) H Q := ⟨a, xs, n, v, rfl, rfl, hs, ha, h⟩
theorem i_setL {xs : List V} {n : Int} {G : Hp → Prop} (ho : H a = some (.lst xs)) (hi : ixN xs.length n = some j) (h : ∀ H', Keep [a] H H' → H' a = some (.lst (xs.set j v)) → G H') : rSetL (.ref a) (.int n) v H G :=
  ⟨a, xs, n, j, rfl, rfl, ho, hi, h _ (Keep.set' (by simp) ho (fun z => z)) upd_same⟩
theorem i_bm {T : String} {r : V → List V → Hp → VK → Prop} (h : ta σ H fun x H1 => tyV K T x H1 ∧ tA σ H1 fun xs H2 => r x xs H2 Q) : tBM K T r ta tA σ H Q := h
theorem i_bm0 {T : String} {r : V → List V → Hp → VK → Prop} (h : ta σ H fun x H1 => tyV K T x H1 ∧ r x [] H1 Q) : tBM0 K T r ta σ H Q := h
theorem i_tyL {xs : List V} {G : Prop} (hs : SqL K H a xs) (h : G) : tyV K "list" (.ref a) H ∧ G := ⟨.inl ⟨rfl, xs, hs⟩, h⟩
theorem i_app {l : Addr} {xs : List V} (ho : H l = some (.lst xs)) (hz : xs.length < sizeLine) (h : ∀ H', Keep [l] H H' → H' l = some (.lst (xs ++ [y])) → Q .non H') : rAppend (.ref l) [y] H Q :=
  ⟨l, xs, y, rfl, rfl, ho, hz, h _ (Keep.set' (by simp) ho (fun z => z)) upd_same⟩
theorem i_new {p : Addr} {o : HO} {G : Hp → Prop} (hp : H p = none) (h : ∀ H', Keep [] H H' → H' p = some o → G H') : G (upd H p o) := h _ (Keep.new hp) upd_same
theorem i_set {p : Addr} {o u : HO} {G : Hp → Prop} (hp : H p = some u) (hu : ¬ Imm u) (h : ∀ H', Keep [p] H H' → H' p = some o → G H') : G (upd H p o) := h _ (Keep.set' (by simp) hp hu) upd_same
theorem i_tupR {xs : List V} (hz : xs.length ≤ sizeLine) (h : ∀ p H', H p = none → Keep [] H H' → H' p = some (.tup xs) → Q (.ref p) H') : NewT xs H Q := ⟨hz, fun p hp => h p _ hp (Keep.new hp) upd_same⟩
theorem i_lstR {xs : List V} (hz : xs.length ≤ sizeLine) (h : ∀ p H', H p = none → Keep [] H H' → H' p = some (.lst xs) → Q (.ref p) H') : NewL xs H Q := ⟨hz, fun p hp => h p _ hp (Keep.new hp) upd_same⟩
theorem i_pop0 {l : Addr} {xs : List V} (ho : H l = some (.lst (y :: xs))) (h : ∀ H', Keep [l] H H' → H' l = some (.lst xs) → Q y H') : rPopAt (.ref l) [.int 0] H Q :=
  ⟨l, _, 0, 0, y, rfl, rfl, ho, by decide, by decide, seqIndex_of (by decide) (by rw [List.length_cons]; omega), rfl, h _ (Keep.set' (by simp) ho (fun z => z)) upd_same⟩
theorem i_int {n : Int} {G : Int → Prop} {B : Prop} (h : G n) : (∃ i, [V.int n] = [.int i] ∧ G i) ∨ B := .inl ⟨n, rfl, h⟩
theorem i_intB {k : Bool} {G : Bool → Prop} {B : Prop} (h : G k) : B ∨ ∃ k', [V.bl k] = [.bl k'] ∧ G k' := .inr ⟨k, rfl, h⟩
theorem i_abs {n : Int} {G : Int → Prop} (h : G n) : ∃ i, [V.int n] = [.int i] ∧ G i := ⟨n, rfl, h⟩
theorem abs_e (n : Int) : (if n < 0 then -n else n) = (n.natAbs : Int) := by omega
theorem sz_le {n : Nat} (h : n ≤ 1000000) : n ≤ sizeLine := Nat.le_trans h (by decide)
theorem sz_lt {n : Nat} (h : n < 1000000) : n < sizeLine := Nat.lt_of_lt_of_le h (by decide)
theorem hr64 {k : Nat} {A : Around} (hr : Room k A) : A.units + 64 < cLine := by have := hr.un; omega
theorem hr65 {k : Nat} {A : Around} (hr : Room k A) : A.units + 65 < cLine := by have := hr.un; omega
/-! branches -/
theorem b_eqI {A B : Prop} {m n : Int} (h1 : m = n → A) (h2 : m ≠ n → B) : if decide (V.int m = V.int n) = true then A else B := by
  by_cases h : m = n
  · rw [if_pos (by simp [h])]; exact h1 h
  · rw [if_neg (by simp [h])]; exact h2 h
theorem b_neI {A B : Prop} {m n : Int} (h1 : m ≠ n → A) (h2 : m = n → B) : if (!decide (V.int m = V.int n)) = true then A else B := by
  by_cases h : m = n
  · rw [if_neg (by simp [h])]; exact h2 h
  · rw [if_pos (by simp [h])]; exact h1 h
theorem b_dec {A B c : Prop} [Decidable c] (h1 : c → A) (h2 : ¬ c → B) : if decide c = true then A else B := by
  by_cases h : c
  · rw [if_pos (by simp [h])]; exact h1 h
  · rw [if_neg (by simp [h])]; exact h2 h
theorem b_ndec {A B c : Prop} [Decidable c] (h1 : ¬ c → A) (h2 : c → B) : if (!decide c) = true then A else B := by
  by_cases h : c
  · rw [if_neg (by simp [h])]; exact h2 h
  · rw [if_pos (by simp [h])]; exact h1 h
theorem b_bool {A B : Prop} {c : Bool} (h1 : c = true → A) (h2 : c = false → B) : if c = true then A else B := by
  cases c with
  | true => rw [if_pos rfl]; exact h1 rfl
  | false => rw [if_neg (by simp)]; exact h2 rfl
theorem b_nbool {A B : Prop} {c : Bool} (h1 : c = false → A) (h2 : c = true → B) : if (!c) = true then A else B := by
  cases c with
  | true => rw [if_neg (by simp)]; exact h2 rfl
  | false => rw [if_pos (by simp)]; exact h1 rfl
theorem b_t {A B : Prop} (h1 : A) : if true = true then A else B := by rw [if_pos rfl]; exact h1
theorem b_f {A B : Prop} (h1 : B) : if false = true then A else B := by rw [if_neg (by simp)]; exact h1
theorem b_nt {A B : Prop} (h1 : B) : if (!true) = true then A else B := by rw [if_neg (by simp)]; exact h1
theorem b_nf {A B : Prop} (h1 : A) : if (!false) = true then A else B := by rw [if_pos (by simp)]; exact h1
end
end PB
local macro_rules | `(tactic| walk_at "pb1") => `(tactic| with_reducible (first
  | apply PB.i_seq | apply PB.i_asg | (refine PB.i_var rfl ?_) | apply PB.i_c | apply PB.i_op | apply PB.i_cons | apply PB.i_nil | apply PB.i_call | apply PB.i_opS | apply PB.i_unS | apply PB.i_cbS | apply PB.i_ifS | apply PB.i_test | apply PB.i_bl | apply PB.i_gname
  | apply PB.i_rI0 | (refine PB.i_rEq rfl ?_) | (refine PB.i_rNe rfl ?_) | apply PB.i_ret | apply PB.i_par | apply PB.i_par2 | apply PB.i_cb | apply PB.i_next | apply PB.i_drop | apply PB.i_un | apply PB.i_rU | apply PB.i_B | apply PB.i_not | apply PB.i_and | apply PB.i_or | apply PB.i_if
  | apply PB.i_andV | apply PB.i_orV | apply PB.i_notV | apply PB.i_retN | apply PB.i_tup | apply PB.i_lst | apply PB.i_fld | apply PB.i_meth | apply PB.i_make | apply PB.i_sfld | apply PB.i_gcons | apply PB.i_gnil | apply PB.i_gsub | apply PB.i_ipI | (refine PB.i_aug rfl ?_) | apply PB.i_brk | apply PB.i_cont | apply PB.i_bm | apply PB.i_bm0 | apply PB.i_int | apply PB.i_abs | apply PB.i_intB | apply PB.b_t | apply PB.b_f | apply PB.b_nt | apply PB.b_nf))
local macro_rules | `(tactic| walk_at "pb") => `(tactic| first | (walk_at "pb1"; repeat (walk_at "pb1")) | (dsimp only; repeat (walk_at "pb1")) | skip)
local macro_rules | `(tactic| walk_at "sz") => `(tactic| first | exact Nat.zero_le _ | (refine PB.sz_le ?_; simp; done) | (refine PB.sz_le ?_; simp <;> omega) | (refine PB.sz_lt ?_; simp; done) | (refine PB.sz_lt ?_; simp <;> omega) | (refine PB.sz_le ?_; omega) | (refine PB.sz_lt ?_; omega))
local macro_rules | `(tactic| walk_at "rng") => `(tactic| (simp only [Int.mul_add, Int.add_mul, Int.mul_sub, Int.sub_mul, Int.neg_mul, Int.mul_neg, Int.mul_assoc, Int.mul_comm, Int.mul_left_comm, Int.mul_one, Int.one_mul, Int.mul_zero, Int.zero_mul] <;> omega))
namespace PB
open PySem PySem.Spec PyProof.Rows L2
/-! ## data -/
theorem dpAll_ints {K : PySem.W.Frag} {H : Hp} : ∀ ns : List Int, DpAll K H (ns.map V.int) (ns.map PyData.int)
  | [] => .nil
  | n :: ns => .cons (.int n) (dpAll_ints ns)
theorem canLay_ints : ∀ ns : List Int, PyData.canLayAll0 (ns.map PyData.int) = true
  | [] => by simp [PyData.canLayAll0]
  | n :: ns => by simp [PyData.canLayAll0, PyData.canLay0, canLay_ints ns]
theorem depth_ints : ∀ ns : List Int, PyData.depthAll (ns.map PyData.int) = 0
  | [] => by simp [PyData.depthAll]
  | n :: ns => by simp [PyData.depthAll, PyData.depth, depth_ints ns]
theorem shaped_ints (ns : List Int) : SeqAt.shaped (.list (ns.map PyData.int)) = true := by
  simp [SeqAt.shaped, PyData.canLay0, canLay_ints, PyData.depth, depth_ints]
theorem i_neNil {K : PySem.W.Frag} {H : Hp} {Q : VK} {l p : Addr} {ns : List Int} (hl : H l = some (.lst (ns.map V.int))) (hp : H p = some (.lst [])) (h : Q (.bl (!ns.isEmpty)) H) : rNeD K (.ref l) (.ref p) H Q := by
  refine ⟨.list (ns.map PyData.int), .list [], .lst (SqL.of hl) (dpAll_ints ns), .lst (SqL.of hp) .nil, shaped_ints ns, shaped_ints [], ?_⟩
  have e : PyData.eqv (.list (ns.map PyData.int)) (.list []) = ns.isEmpty := by
    cases ns <;> simp [PyData.eqv, PyData.eqvAll]
  rw [e]
  exact h
/-! ## the spring of draws -/
/-- the spring of draws at S, its cells at l: at most n draws so far -/
structure Stm (S l : Addr) (n : Nat) (H : Hp) : Prop where
  ne : S ≠ l
  ex : ∃ (rest : List Int) (c m : Int) (q : Nat), q ≤ n ∧ H S = some (.lst [.ref l, .int c, .int q, .int m]) ∧ H l = some (.lst (rest.map V.int)) ∧ rest.length ≤ 63 ∧ 0 ≤ m ∧ m < 2147483647
theorem Stm.mono {S l : Addr} {n k : Nat} {H : Hp} (h : Stm S l n H) (hk : n ≤ k) : Stm S l k H :=
  ⟨h.ne, let ⟨r, c, m, q, a, b⟩ := h.ex; ⟨r, c, m, q, Nat.le_trans a hk, b⟩⟩
theorem Stm.keep {S l : Addr} {n : Nat} {ms : List Addr} {H H' : Hp} (h : Stm S l n H) (k : Keep ms H H') (h1 : S ∉ ms) (h2 : l ∉ ms) : Stm S l n H' :=
  ⟨h.ne, let ⟨r, c, m, q, a, b, e, f⟩ := h.ex; ⟨r, c, m, q, a, k.at_ _ _ h1 b, k.at_ _ _ h2 e, f⟩⟩
theorem Stm.fresh {S l : Addr} {n : Nat} {H : Hp} {p : Addr} (h : Stm S l n H) (hp : H p = none) : p ∉ [S, l] := by
  obtain ⟨_, _, _, _, _, a, b, _⟩ := h.ex
  have h1 := ne_of_none a hp
  have h2 := ne_of_none b hp
  simpa using ⟨h1.symm, h2.symm⟩
/-- what stands at the spring's places is a list -/
theorem Stm.off {S l : Addr} {n : Nat} {H : Hp} {p : Addr} {o : HO} (h : Stm S l n H) (hp : H p = some o) (ho : ∀ xs, o ≠ .lst xs) : p ∉ [S, l] := by
  obtain ⟨_, _, _, _, _, a, b, _⟩ := h.ex
  have h1 := ne_of hp a (ho _)
  have h2 := ne_of hp b (ho _)
  simpa using ⟨h1, h2⟩
/-- _law_draw -/
def spDraw : Sp := fun vs H Q _ => ∃ (S l : Addr) (n : Nat) (many : Int), vs = [.ref S, .int many] ∧ 0 < many ∧ many.natAbs < 2 ^ 9000 ∧ n < 10000000 ∧ Stm S l n H ∧
  ∀ H' r, Keep [S, l] H H' → Stm S l (n + 1) H' → 0 ≤ r → r < many → Q (.int r) H'
theorem p64 : (2 : Nat) ^ 64 = 18446744073709551616 := by decide
theorem mulW_small {i j : Int} (hi : i.natAbs < 2 ^ 64) (hj : j.natAbs < 2 ^ 64) : CMulW i j := wide_mul hi hj (by decide) (by decide) (by decide)
end PB
namespace PB
open PySem PySem.W PyProof.Rows Builtin
/-! ## operators of own classes -/
section
variable {prog : Program} {w : World} {A : Around} {E : Value → Shared → Prop} {s : Shared} {K : Frag} {x C L f : Addr} {h₀ : Heap} {m : Str → Option Value} {ox : Obj} {od : Option Obj}
theorem mro_of {cd : ClassData} (hm : cd.mro.head? == some (.ref C)) : ∃ rest, cd.mro = .ref C :: rest := by
  cases q : cd.mro with
  | nil => rw [q] at hm; cases hm
  | cons a r => rw [q] at hm; exact ⟨r, by rw [List.head?_cons] at hm; cases (beq_iff_eq.mp hm); rfl⟩
/-- what a look-up by name of an own class's method gives, for numberSlotInPython -/
def rvOk (rv : Option Value) : Bool := match rv with
  | none => true
  | some (.ref _) => true
  | _ => false
theorem slotPy {M : Model} {h : Heap} {nm : String} {rv : Option Value} (X : K.In h) (hs : findIn K (.ref C) (PySem.dunder nm) = some (some (.ref f))) (hr : findIn K (.ref C) (dunderR nm) = some rv) (hrv : rvOk rv = true) : Looks M h (numberSlotInPython (.ref C) nm) true := by
  intro A Q E s k q
  unfold numberSlotInPython
  refine wpAny_bind (looks_findIn X hs A _ E s k ?_)
  refine wpAny_bind (wpAny_pure ?_)
  refine wpAny_bind (looks_findIn X hr A _ E s k ?_)
  cases rv with
  | none =>
    refine wpAny_bind (wpAny_pure ?_)
    exact wpAny_pure q
  | some v =>
    cases v with
    | ref g =>
      refine wpAny_bind (wpAny_pure ?_)
      exact wpAny_pure q
    | _ => cases hrv
/-- own op builtin -/
theorem binop1_KI {T nm : String} {b : Value} {rv : Option Value} {tk : Option Value} {Q : Value → Shared → Prop} (F : Fr h₀ L s.heap m) (X₀ : K.In h₀) (I : InstAt s.heap x ox C od) (hb : Looks (model prog w) s.heap (typeOf b) (.type T)) (hc : selfFirst K C = true)
    (hfb : fillsNumberSlot (.type T) nm = pure true) (hsub : subIn K (.type T) (.ref C) = some false) (htk : typeLookup (.type T) (dunderR nm) = pure tk)
    (hs : findIn K (.ref C) (PySem.dunder nm) = some (some (.ref f))) (hr : findIn K (.ref C) (dunderR nm) = some rv) (hrv : rvOk rv = true) (hf : isFn K (.ref f) = true)
    (h : wpAny (model prog w) A (call (.ref f) [.ref x, b]) (W.CmpBack Q) E s) : wpAny (model prog w) A (binaryOp1 nm (.ref x) b) (fun r s' => ∃ v, r = some v ∧ Q v s') E s := by
  have X := X₀.keeps F.keep
  obtain ⟨cd, hcd, hm⟩ := any_some hc
  obtain ⟨rest, hm⟩ := mro_of hm
  unfold binaryOp1
  refine wpAny_bind (I.type.here (wpAny_bind (hb.here (wpAny_bind ((fills_K X hcd hm hs).here ?_)))))
  have hne : ((Value.ref C) == (Value.type T)) = false := by simp
  simp only [hne, Bool.false_eq_true, if_false]
  refine wpAny_bind (wpAny_of_eq hfb ?_)
  simp only [Bool.and_true, if_true, Bool.and_self]
  refine wpAny_bind ((looks_subIn X hsub).here ?_)
  simp only [Bool.false_eq_true, if_false, Bool.not_false, if_true]
  refine wpAny_bind ((slotPy X hs hr hrv).here ?_)
  simp only [if_true]
  refine wpAny_bind (wpAny_of_eq (show numberSlotInPython (.type T) nm = pure false from rfl) ?_)
  simp only [Bool.not_false, if_true]
  refine wpAny_bind (wpAny_of_eq htk ?_)
  refine wpAny_bind (m := tryMethod (.ref x) _ b) ?_
  unfold tryMethod
  refine wpAny_bind (special_fn X I hs (beq_iff_eq.mp hf) (wpAny_mono h (fun v s' hv => ?_) fun _ _ e => e))
  cases v <;> first | exact hv.elim | exact wpAny_pure (wpAny_pure ⟨_, rfl, hv⟩)
/-- builtin op own, the builtin declines -/
theorem binop1_IK {T nm id : String} {a : Value} {g : Addr} {Q : Value → Shared → Prop} (F : Fr h₀ L s.heap m) (X₀ : K.In h₀) (I : InstAt s.heap x ox C od) (ha : s.TypeIs a T) (hc : selfFirst K C = true)
    (hfa : fillsNumberSlot (.type T) nm = pure true) (sl : Slot T (PySem.dunder nm) id) (hsub : subIn K (.ref C) (.type T) = some false)
    (hs : findIn K (.ref C) (PySem.dunder nm) = some (some (.ref f))) (hr : findIn K (.ref C) (dunderR nm) = some (some (.ref g))) (hg : isFn K (.ref g) = true)
    (hd : wpAny (model prog w) A (call (.builtin id) [a, .ref x]) (fun v s' => v = .notImplemented ∧ s' = s) E s)
    (h : wpAny (model prog w) A (call (.ref g) [.ref x, a]) (W.CmpBack Q) E s) : wpAny (model prog w) A (binaryOp1 nm a (.ref x)) (fun r s' => ∃ v, r = some v ∧ Q v s') E s := by
  have X := X₀.keeps F.keep
  obtain ⟨cd, hcd, hm⟩ := any_some hc
  obtain ⟨rest, hm⟩ := mro_of hm
  unfold binaryOp1
  refine wpAny_bind (wpAny_typeOf ha (wpAny_bind (I.type.here (wpAny_bind (wpAny_of_eq hfa ?_)))))
  have hne : ((Value.type T) == (Value.ref C)) = false := by simp
  simp only [hne, Bool.false_eq_true, if_false]
  refine wpAny_bind ((fills_K X hcd hm hs).here ?_)
  simp only [Bool.and_true, if_true, Bool.and_self]
  refine wpAny_bind ((looks_subIn X hsub).here ?_)
  simp only [Bool.false_eq_true, if_false, Bool.not_false, if_true]
  refine wpAny_bind (wpAny_of_eq (show numberSlotInPython (.type T) nm = pure false from rfl) ?_)
  simp only [Bool.false_eq_true, if_false]
  refine wpAny_bind (wpAny_tryMethod_declines ha sl (wpAny_mono hd (fun v s' hv => ?_) fun _ _ e => e))
  obtain ⟨rfl, rfl⟩ := hv
  refine ⟨rfl, ?_⟩
  refine wpAny_bind (m := tryMethod (.ref x) _ a) ?_
  unfold tryMethod
  refine wpAny_bind (special_fn X I hr (beq_iff_eq.mp hg) (wpAny_mono h (fun v s' hv => ?_) fun _ _ e => e))
  cases v <;> first | exact hv.elim | exact wpAny_pure (wpAny_bind (wpAny_rule (wpAny_pure ⟨_, rfl, hv⟩)))
end
end PB
namespace PB
open PySem PySem.Spec PyProof.Rows L2
section
variable {X : Cx} {CX : CXT} {k : Nat} {f C : Addr} {fd : FuncData} {ps : List Str} {sp : Sp} {dvs : List V} {ds : List Value} {E : XK} {W : WX} {c mt : Str}
/-- a method by its class's and its own name: what callers have -/
theorem OkM.runA {A' : Around} (hA : A'.frames = X.A.frames) {pins : List (Addr × Obj)} {σ : L2.St} {H : Hp} {s : Shared} {Q : VK} {us : List Value} {vs : List V} (O : OkM X.prog X.w X.K X.mg X.base CX k c mt ps dvs sp) (hr : Room k A') (hx : PassesAt CX X σ E)
    (I : Inv X pins σ H s) (r : Vals vs us) (h : sp (vs ++ dvs) H Q E) : wpAny (model X.prog X.w) A' (call (.ref (He.ma X.K (He.ga X.K c) mt)) us) (EP X pins σ Q) X.xe s := by
  obtain ⟨fd, ds, F, hc, hm, hb, hd⟩ := O
  exact run_fnA hA F hr hb hd hx I r h
theorem OkM.meth (O : OkM X.prog X.w X.K X.mg X.base CX k c mt ps dvs sp) : Meth X.K (He.ga X.K c) mt (He.ma X.K (He.ga X.K c) mt) := let ⟨_, _, _, _, m, _⟩ := O; m
theorem inst_of {pins : List (Addr × Obj)} {σ : L2.St} {H : Hp} {s : Shared} {a C dx : Addr} {fs : List (Str × V)} (I : Inv X pins σ H s) (e : H a = some (.ins C dx fs)) : ∃ od, PySem.W.InstAt s.heap a (PySem.W.instObj C dx) C (some od) := by
  obtain ⟨mA, J, _⟩ := ins_get I.hok e
  obtain ⟨od, J, _⟩ := J.look
  exact ⟨od, J⟩
theorem cmpBack_of {Q : Value → Shared → Prop} {v : V} {u : Value} {s : Shared} (r : RelV v u) (q : Q u s) : PySem.W.CmpBack Q u s := by
  cases v with
  | non => cases (show u = Value.none from r); exact q
  | bl b => cases (show u = Value.bool b from r); exact q
  | int i => obtain ⟨t, rfl⟩ := (show ∃ t, u = Value.int i t from r); exact q
  | str i => obtain ⟨t, rfl⟩ := (show ∃ t, u = Value.str i t from r); exact q
  | byt i => obtain ⟨t, rfl⟩ := (show ∃ t, u = Value.bytes i t from r); exact q
  | flt i => obtain ⟨t, rfl⟩ := (show ∃ t, u = Value.float i t from r); exact q
  | ref a => cases (show u = Value.ref a from r); exact q
  | ty n => cases (show u = Value.type n from r); exact q
/-- facts of an own class that stands beside ints -/
structure OwnN (K : PySem.W.Frag) (C : Addr) : Prop where
  sf : PySem.W.selfFirst K C = true
  si : PySem.W.subIn K (.type "int") (.ref C) = some false
  is_ : PySem.W.subIn K (.ref C) (.type "int") = some false
def ownNB (x : Str) (K : PySem.W.Frag) : Bool := PySem.W.selfFirst K (He.ga K x) && (decide (PySem.W.subIn K (.type "int") (.ref (He.ga K x)) = some false) && decide (PySem.W.subIn K (.ref (He.ga K x)) (.type "int") = some false))
theorem ownN_of {x : Str} {K : PySem.W.Frag} (h : ownNB x K = true) : OwnN K (He.ga K x) := by
  obtain ⟨a, b⟩ := He.ba h
  obtain ⟨b, d⟩ := He.ba b
  exact ⟨a, of_decide_eq_true b, of_decide_eq_true d⟩
/-- what is found under a reflected name -/
def RvI (K : PySem.W.Frag) (C : Addr) (nm : Str) : Prop := ∃ rv, PySem.W.findIn K (.ref C) nm = some rv ∧ rvOk rv = true
def rvB (x nm : Str) (K : PySem.W.Frag) : Bool := match PySem.W.findIn K (.ref (He.ga K x)) nm with
  | some rv => rvOk rv
  | none => false
theorem rv_of {x nm : Str} {K : PySem.W.Frag} (h : rvB x nm K = true) : RvI K (He.ga K x) nm := by
  unfold rvB at h
  cases e : PySem.W.findIn K (.ref (He.ga K x)) nm with
  | none => rw [e] at h; cases h
  | some rv => rw [e] at h; exact ⟨rv, e, h⟩
theorem rv_meth {K : PySem.W.Frag} {C f : Addr} {nm : Str} (h : Meth K C nm f) : RvI K C nm := ⟨_, h.at_, rfl⟩
/-- own op y: y an instance of the same class or an int -/
def rOwn (C : Addr) (sp : Sp) (W : WX) : L2.St → R2 := fun σ x y H Q => ∃ a dx fs, x = .ref a ∧ H a = some (.ins C dx fs) ∧ ((∃ b dy gs, y = .ref b ∧ H b = some (.ins C dy gs)) ∨ ∃ j, y = .int j) ∧ sp [x, y] H Q (WE W σ)
def rROwn (C : Addr) (sp : Sp) (W : WX) : L2.St → R2 := fun σ x y H Q => ∃ i b dx fs, x = .int i ∧ y = .ref b ∧ H b = some (.ins C dx fs) ∧ sp [y, x] H Q (WE W σ)
theorem binop_of1 {op : Operator} {a b : Value} {M : Model} {A : Around} {Q : Value → Shared → Prop} {E : Value → Shared → Prop} {s : Shared} (h : wpAny M A (binaryOp1 op.info.2 a b) (fun r s' => ∃ v, r = some v ∧ Q v s') E s) : wpAny M A (binaryOp op a b) Q E s := by
  rcases hi : op.info with ⟨sym, nm⟩
  rw [hi] at h
  simp only [binaryOp, hi]
  refine wpAny_holding (wpAny_bind (wpAny_mono h (fun r s' hr => ?_) fun _ _ z => z))
  obtain ⟨v, rfl, q⟩ := hr
  exact wpAny_pure q
theorem op_own {op : Operator} {tk : Option Value} (O : OkM X.prog X.w X.K X.mg X.base CX k c (dunder op.info.2) ps [] sp) (N : OwnN X.K (He.ga X.K c)) (R : RvI X.K (He.ga X.K c) (dunderR op.info.2)) (hr : Room k X.A) (hx : ∀ σ, PassesAt CX X σ (WE W σ))
    (hfb : fillsNumberSlot (.type "int") op.info.2 = pure true) (htk : typeLookup (.type "int") (dunderR op.info.2) = pure tk) : OpRS X (binaryOp op) (rOwn (He.ga X.K c) sp W) := by
  intro pins s σ H x y v u Q I rx ry h
  obtain ⟨a, dx, fs, rfl, ha, hy, hs⟩ := h
  cases rx
  obtain ⟨od, J⟩ := inst_of I ha
  obtain ⟨m, hF⟩ := I.fr
  obtain ⟨rv, hrv, hrk⟩ := R
  rcases hy with ⟨b, dy, gs, rfl, hb⟩ | ⟨j, rfl⟩
  · cases ry
    obtain ⟨od', J'⟩ := inst_of I hb
    refine PySem.W.binop_K (op := op) hF I.ok.mod.kin J J'.type N.sf O.meth.at_ O.meth.fn ?_
    refine wpAny_mono (O.runA rfl hr (hx σ) I (vs := [.ref a, .ref b]) (.cons rfl (.cons rfl .nil)) hs) (fun u s' hu => ?_) fun _ _ z => z
    obtain ⟨v, H', I', r, q⟩ := hu
    exact cmpBack_of (Q := EP X pins σ Q) r ⟨v, H', I', r, q⟩
  · obtain ⟨t, rfl⟩ := ry
    refine binop_of1 (binop1_KI (T := "int") hF I.ok.mod.kin J (PySem.W.Looks.of_pure rfl) N.sf hfb N.si htk O.meth.at_ hrv hrk O.meth.fn ?_)
    refine wpAny_mono (O.runA rfl hr (hx σ) I (vs := [.ref a, .int j]) (.cons rfl (.cons ⟨t, rfl⟩ .nil)) hs) (fun u s' hu => ?_) fun _ _ z => z
    obtain ⟨v, H', I', r, q⟩ := hu
    exact cmpBack_of (Q := EP X pins σ Q) r ⟨v, H', I', r, q⟩
/-- an int's method declines an own instance -/
def Decl (id : String) : Prop := ∀ (prog : Program) (w : World) (A : Around) (E : Value → Shared → Prop) (s : Shared) (i : Int) (t : Tok) (a C dx : Addr), s.heap.get? a = some (PySem.W.instObj C dx) → wpAny (model prog w) A (call (.builtin id) [.int i t, .ref a]) (fun v s' => v = .notImplemented ∧ s' = s) E s
theorem op_rown {op : Operator} {id : String} {f : Addr} (O : OkM X.prog X.w X.K X.mg X.base CX k c (dunderR op.info.2) ps [] sp) (M : Meth X.K (He.ga X.K c) (dunder op.info.2) f) (N : OwnN X.K (He.ga X.K c)) (hr : Room k X.A) (hx : ∀ σ, PassesAt CX X σ (WE W σ))
    (hfb : fillsNumberSlot (.type "int") op.info.2 = pure true) (sl : Slot "int" (dunder op.info.2) id) (hd : Decl id) : OpRS X (binaryOp op) (rROwn (He.ga X.K c) sp W) := by
  intro pins s σ H x y v u Q I rx ry h
  obtain ⟨i, b, dx, fs, rfl, rfl, hb, hs⟩ := h
  cases ry
  obtain ⟨t, rfl⟩ := rx
  obtain ⟨od, J⟩ := inst_of I hb
  obtain ⟨m, hF⟩ := I.fr
  refine binop_of1 (binop1_IK (T := "int") hF I.ok.mod.kin J (typeIs_int s i t) N.sf hfb sl N.is_ M.at_ O.meth.at_ O.meth.fn (hd _ _ _ _ _ _ _ _ _ _ J.at_) ?_)
  refine wpAny_mono (O.runA rfl hr (hx σ) I (vs := [.ref b, .int i]) (.cons rfl (.cons ⟨t, rfl⟩ .nil)) hs) (fun u s' hu => ?_) fun _ _ z => z
  obtain ⟨v, H', I', r, q⟩ := hu
  exact cmpBack_of (Q := EP X pins σ Q) r ⟨v, H', I', r, q⟩
/-- an own instance alone -/
def rOwn1 (C : Addr) (sp : Sp) (W : WX) : L2.St → V → Hp → VK → Prop := fun σ x H Q => ∃ a dx fs, x = .ref a ∧ H a = some (.ins C dx fs) ∧ sp [x] H Q (WE W σ)
theorem un_negOwn (O : OkM X.prog X.w X.K X.mg X.base CX k c "__neg__" ps [] sp) (hr : Room k X.A) (hx : ∀ σ, PassesAt CX X σ (WE W σ)) : UnRS X (unaryOp .USub) (rOwn1 (He.ga X.K c) sp W) := by
  intro pins s σ H x v Q I rx h
  obtain ⟨a, dx, fs, rfl, ha, hs⟩ := h
  cases rx
  obtain ⟨od, J⟩ := inst_of I ha
  show wpAny _ _ (holding [.ref a] _) _ _ _
  refine wpAny_holding ?_
  refine wpAny_bind (m := callSpecial? (.ref a) (Str.ofString "__neg__")) (PySem.W.special_fn I.kIn J O.meth.at_ (beq_iff_eq.mp O.meth.fn) (wpAny_mono (O.runA rfl hr (hx σ) I (vs := [.ref a]) (.cons rfl .nil) hs) (fun u s' hu => wpAny_pure hu) fun _ _ z => z))
theorem un_invOwn (O : OkM X.prog X.w X.K X.mg X.base CX k c "__invert__" ps [] sp) (hr : Room k X.A) (hx : ∀ σ, PassesAt CX X σ (WE W σ)) : UnRS X (unaryOp .Invert) (rOwn1 (He.ga X.K c) sp W) := by
  intro pins s σ H x v Q I rx h
  obtain ⟨a, dx, fs, rfl, ha, hs⟩ := h
  cases rx
  obtain ⟨od, J⟩ := inst_of I ha
  show wpAny _ _ (holding [.ref a] _) _ _ _
  refine wpAny_holding ?_
  refine wpAny_bind (m := callSpecial? (.ref a) (Str.ofString "__invert__")) (PySem.W.special_fn I.kIn J O.meth.at_ (beq_iff_eq.mp O.meth.fn) (wpAny_mono (O.runA rfl hr (hx σ) I (vs := [.ref a]) (.cons rfl .nil) hs) (fun u s' hu => wpAny_pure hu) fun _ _ z => z))
theorem call_absOwn (O : OkM X.prog X.w X.K X.mg X.base CX k c "__abs__" ps [] sp) (hr : Room (k + 1) X.A) (hx : ∀ σ, PassesAt CX X σ (WE W σ)) : CallRS X (.builtin "abs") (fun σ xs H Q => ∃ x, xs = [x] ∧ rOwn1 (He.ga X.K c) sp W σ x H Q) := by
  intro pins s σ H xs us Q I r h
  obtain ⟨x, rfl, a, dx, fs, rfl, ha, hs⟩ := h
  obtain ⟨u, rfl, rx⟩ := vals1 r
  cases rx
  obtain ⟨od, J⟩ := inst_of I ha
  refine Calls.call_function_entry kind_abs plain_abs entry_abs (args_abs _) ?_
  unfold Builtin.«abs»
  refine wpAny_bind (m := oneArg "abs" _) (wpAny_pure ?_)
  refine wpAny_bind (m := callSpecial? (.ref a) (Str.ofString "__abs__")) (PySem.W.special_fn I.kIn J O.meth.at_ (beq_iff_eq.mp O.meth.fn) (wpAny_mono (O.runA (A' := X.A.in1) rfl hr.in1 (hx σ) I (vs := [.ref a]) (.cons rfl .nil) hs) (fun u s' hu => ?_) fun _ _ z => z))
  exact wpAny_pure ⟨_, rfl, hu⟩
theorem call_lenOwn (O : OkM X.prog X.w X.K X.mg X.base CX k c "__len__" ps [] sp) (hr : Room (k + 1) X.A) (hx : ∀ σ, PassesAt CX X σ (WE W σ)) : CallRS X (.builtin "len") (fun σ xs H Q => ∃ x, xs = [x] ∧ rOwn1 (He.ga X.K c) sp W σ x H fun v H' => ∃ n : Int, v = .int n ∧ 0 ≤ n ∧ n < 2 ^ 63 ∧ Q (.int n) H') := by
  intro pins s σ H xs us Q I r h
  obtain ⟨x, rfl, a, dx, fs, rfl, ha, hs⟩ := h
  obtain ⟨u, rfl, rx⟩ := vals1 r
  cases rx
  obtain ⟨od, J⟩ := inst_of I ha
  obtain ⟨m, hF⟩ := I.fr
  refine PySem.W.len_K hF I.ok.mod.kin J O.meth.at_ O.meth.fn (wpAny_mono (O.runA (A' := X.A.in1) rfl hr.in1 (hx σ) I (vs := [.ref a]) (.cons rfl .nil) hs) (fun u s' hu => ?_) fun _ _ z => z)
  obtain ⟨v, H', I', r, n, rfl, h0, h1, q⟩ := hu
  obtain ⟨t, rfl⟩ := r
  exact ⟨⟨h0, h1⟩, .int n, H', I'.tok _, ⟨_, rfl⟩, q⟩
/-- x == y .. by own comparisons: y an instance of the same class or an int -/
theorem op_cmpOwn {op : CmpOp} {nm : Str} (hn : (cmpInfo op).2.1 = nm) (hop : compareOp op = richCompare op) (O : OkM X.prog X.w X.K X.mg X.base CX k c nm ps [] sp) (N : OwnN X.K (He.ga X.K c)) (hr : Room k X.A) (hx : ∀ σ, PassesAt CX X σ (WE W σ)) : OpRS X (compareOp op) (rOwn (He.ga X.K c) sp W) := by
  intro pins s σ H x y v u Q I rx ry h
  obtain ⟨a, dx, fs, rfl, ha, hy, hs⟩ := h
  cases rx
  obtain ⟨od, J⟩ := inst_of I ha
  obtain ⟨m, hF⟩ := I.fr
  rw [hop]
  subst hn
  rcases hy with ⟨b, dy, gs, rfl, hb⟩ | ⟨j, rfl⟩
  · cases ry
    obtain ⟨od', J'⟩ := inst_of I hb
    refine PySem.W.cmp_K (op := op) (tb := .ref (He.ga X.K c)) hr.units0 hF I.ok.mod.kin J J'.type (by simp [PySem.W.notFirst]) O.meth.at_ O.meth.fn ?_
    refine wpAny_mono (O.runA rfl hr (hx σ) I (vs := [.ref a, .ref b]) (.cons rfl (.cons rfl .nil)) hs) (fun u s' hu => ?_) fun _ _ z => z
    obtain ⟨v, H', I', r, q⟩ := hu
    exact cmpBack_of (Q := EP X pins σ Q) r ⟨v, H', I', r, q⟩
  · obtain ⟨t, rfl⟩ := ry
    refine PySem.W.cmp_K (op := op) (tb := .type "int") hr.units0 hF I.ok.mod.kin J (PySem.W.Looks.of_pure rfl) (by simp [PySem.W.notFirst, N.si]) O.meth.at_ O.meth.fn ?_
    refine wpAny_mono (O.runA rfl hr (hx σ) I (vs := [.ref a, .int j]) (.cons rfl (.cons ⟨t, rfl⟩ .nil)) hs) (fun u s' hu => ?_) fun _ _ z => z
    obtain ⟨v, H', I', r, q⟩ := hu
    exact cmpBack_of (Q := EP X pins σ Q) r ⟨v, H', I', r, q⟩
/-- v in x, v not in x, by an own __contains__ that gives a bool -/
def rInOwn (C : Addr) (sp : Sp) (W : WX) (neg : Bool) : L2.St → R2 := fun σ x y H Q => ∃ a dx fs, y = .ref a ∧ H a = some (.ins C dx fs) ∧ sp [y, x] H (fun v H' => ∃ b, v = .bl b ∧ Q (.bl (if neg then !b else b)) H') (WE W σ)
theorem op_inOwn (O : OkM X.prog X.w X.K X.mg X.base CX k c "__contains__" ps [] sp) (hr : Room k X.A) (hx : ∀ σ, PassesAt CX X σ (WE W σ)) : OpRS X (compareOp .In) (rInOwn (He.ga X.K c) sp W false) := by
  intro pins s σ H x y v u Q I rx ry h
  obtain ⟨a, dx, fs, rfl, ha, hs⟩ := h
  cases ry
  obtain ⟨od, J⟩ := inst_of I ha
  obtain ⟨m, hF⟩ := I.fr
  refine PySem.W.in_K hF I.ok.mod.kin J O.meth.at_ O.meth.fn (wpAny_mono (O.runA rfl hr (hx σ) I (vs := [.ref a, x]) (.cons rfl (.cons rx .nil)) hs) (fun u s' hu => ?_) fun _ _ z => z)
  obtain ⟨v, H', I', r, b, rfl, q⟩ := hu
  cases r
  exact wpAny_truthy_bool ⟨.bl b, H', I', rfl, q⟩
theorem op_notinOwn (O : OkM X.prog X.w X.K X.mg X.base CX k c "__contains__" ps [] sp) (hr : Room k X.A) (hx : ∀ σ, PassesAt CX X σ (WE W σ)) : OpRS X (compareOp .NotIn) (rInOwn (He.ga X.K c) sp W true) := by
  intro pins s σ H x y v u Q I rx ry h
  obtain ⟨a, dx, fs, rfl, ha, hs⟩ := h
  cases ry
  obtain ⟨od, J⟩ := inst_of I ha
  obtain ⟨m, hF⟩ := I.fr
  refine PySem.W.notIn_K hF I.ok.mod.kin J O.meth.at_ O.meth.fn (wpAny_mono (O.runA rfl hr (hx σ) I (vs := [.ref a, x]) (.cons rfl (.cons rx .nil)) hs) (fun u s' hu => ?_) fun _ _ z => z)
  obtain ⟨v, H', I', r, b, rfl, q⟩ := hu
  cases r
  exact wpAny_truthy_bool ⟨.bl (!b), H', I', rfl, q⟩
end
end PB
namespace PB
open PySem PySem.Spec PyProof.Rows L2
theorem decl_of {id : String} {name : String} {g : Int → Int → Sem PySem.Fin} {nm : Str} {b : Builtin} (sl : Slot "int" nm id) (en : entryFor table id = some b) (hb : b = Builtin.Int.intBinary name g) (ar : ∀ a b : Value, argsOk id ⟨[a, b], []⟩) : Decl id := by
  intro prog w A E s i t a C dx ha
  refine wpAny_call_entry sl (typeIs_int s i t) en ?_ (ar _ _)
  rw [hb]
  show wpAny _ _ (do
    let some y ← asInt? (.ref a) | rule "int.binary.not-an-int"; ret .notImplemented
    g i y) _ _ s
  refine wpAny_bind ?_
  show wpAny _ _ (do
    match (← load a).data with
    | .prim (.int i _) => pure (some i)
    | _ => pure none) _ _ s
  refine wpAny_bind (wpAny_load ha ?_)
  refine wpAny_pure ?_
  exact wpAny_bind (wpAny_rule (wpAny_pure ⟨_, rfl, rfl, rfl⟩))
theorem decl_add : Decl "int.__add__" := decl_of PySem.F.slot_int_add PySem.F.entry_int_add rfl PySem.F.args_int_add_2
theorem decl_sub : Decl "int.__sub__" := decl_of PySem.F.slot_int_sub PySem.F.entry_int_sub rfl PySem.F.args_int_sub_2
theorem decl_mul : Decl "int.__mul__" := decl_of PySem.F.slot_int_mul PySem.F.entry_int_mul rfl PySem.F.args_int_mul_2
theorem tk_add : typeLookup (.type "int") (dunderR (Operator.info .Add).2) = pure (some (.builtin "int.__radd__")) := by kernel_rfl
theorem tk_sub : typeLookup (.type "int") (dunderR (Operator.info .Sub).2) = pure (some (.builtin "int.__rsub__")) := by kernel_rfl
theorem tk_mul : typeLookup (.type "int") (dunderR (Operator.info .Mult).2) = pure (some (.builtin "int.__rmul__")) := by kernel_rfl
theorem tk_fdiv : typeLookup (.type "int") (dunderR (Operator.info .FloorDiv).2) = pure (some (.builtin "int.__rfloordiv__")) := by kernel_rfl
theorem tk_mod : typeLookup (.type "int") (dunderR (Operator.info .Mod).2) = pure (some (.builtin "int.__rmod__")) := by kernel_rfl
/-! ## the head's facts: He's, and any others by a Bool of the written part -/
def obsP (n : Nat) (fa : List He.Fa) (fn : List He.DefD) (bs : List (PySem.W.Frag → Bool)) (g : Addr → Option Obj) : Bool × He.AlD := (bs.all fun b => b (He.frG g (He.asD g n)), He.obsDG n fa fn g)
def SaysP (fa : List He.Fa) (fn : List He.DefD) (bs : List (PySem.W.Frag → Bool)) (K : PySem.W.Frag) : Prop := He.SaysD fa fn K ∧ (bs.all fun b => b K) = true
def hookP (n : Nat) (fa : List He.Fa) (fn : List He.DefD) (bs : List (PySem.W.Frag → Bool)) : PySem.W.Hook where
  α := Bool × He.AlD
  obs := fun s => obsP n fa fn bs s.heap.get?
  val := fun _ => (true, He.valD fn)
  says := fun _ h => ∃ K : PySem.W.Frag, K.In h ∧ SaysP fa fn bs K
  of := fun _ _ e => ⟨_, He.frG_in, (congrArg Prod.snd e), (congrArg Prod.fst e)⟩
  keeps := fun _ _ _ ⟨K, hK, c⟩ k => ⟨K, PySem.W.Frag.In.keeps hK k, c⟩
theorem obsP_eq {n : Nat} {fa : List He.Fa} {fn : List He.DefD} {bs : List (PySem.W.Frag → Bool)} {g : Addr → Option Obj} {s : Shared} (h : ∀ a, g a = s.heap.get? a) : obsP n fa fn bs g = (hookP n fa fn bs).obs s := by
  have e : g = s.heap.get? := funext h
  rw [e] <;> rfl
theorem SaysP.bool {fa : List He.Fa} {fn : List He.DefD} {bs : List (PySem.W.Frag → Bool)} {K : PySem.W.Frag} (c : SaysP fa fn bs K) (i : Nat) {b : PySem.W.Frag → Bool} (h : bs[i]? = some b := by rfl) : b K = true :=
  List.all_eq_true.mp c.2 b (List.mem_of_getElem? h)
end PB
namespace PB
open PySem PySem.Spec PyProof.Rows L2
/-! ## isinstance -/
/-- what isinstance asks of an own class, and its answers for builtin types -/
structure IsiC (K : PySem.W.Frag) (C : Addr) : Prop where
  ic : C8.InsC K C
  no : ∀ n ∈ ["int", "bool", "str", "list", "tuple", "NoneType"], PySem.W.kitOne K (.type n) (.ref C) = some false
  on : ∀ n ∈ ["int", "bool", "str", "list", "tuple"], PySem.W.kitOne K (.ref C) (.type n) = some false
def isiB (x : Str) (K : PySem.W.Frag) : Bool :=
  (Fa_cls x K && (He.eqO (PySem.W.findIn K (.ref (He.ga K x)) "__class__") (some (some (.builtin "object.__class__"))) && (He.eqO (PySem.W.specialIn K (.builtin "object.__class__") "__get__") (some (some (.builtin "getset_descriptor.__get__"))) &&
    (decide (PySem.W.takesIn K (.builtin "object.__class__") = some true) && (decide (PySem.W.mroIn K (He.ga K x) (.type "object") = some true) && decide (PySem.W.kitOne K (.ref (He.ga K x)) (.ref (He.ga K x)) = some true)))))) &&
  (["int", "bool", "str", "list", "tuple", "NoneType"].all fun n => decide (PySem.W.kitOne K (.type n) (.ref (He.ga K x)) = some false)) && (["int", "bool", "str", "list", "tuple"].all fun n => decide (PySem.W.kitOne K (.ref (He.ga K x)) (.type n) = some false))
where Fa_cls (x : Str) (K : PySem.W.Frag) : Bool := (He.Fa.cls x).ok K
theorem isi_of {x : Str} {K : PySem.W.Frag} (h : isiB x K = true) : IsiC K (He.ga K x) := by
  obtain ⟨h, h3⟩ := He.ba h
  obtain ⟨h1, h2⟩ := He.ba h
  obtain ⟨a, h1⟩ := He.ba h1
  obtain ⟨b, h1⟩ := He.ba h1
  obtain ⟨c, h1⟩ := He.ba h1
  obtain ⟨d, h1⟩ := He.ba h1
  obtain ⟨e, f⟩ := He.ba h1
  exact ⟨⟨He.cls_ok a, He.eqO_ok b, He.eqO_ok c, of_decide_eq_true d, of_decide_eq_true e, of_decide_eq_true f⟩, fun n hn => of_decide_eq_true (List.all_eq_true.mp h2 n hn), fun n hn => of_decide_eq_true (List.all_eq_true.mp h3 n hn)⟩
section
variable {K : PySem.W.Frag} {H : Hp} {Q : VK} {σ : L2.St} {a b C dx dy : Addr} {fs gs : List (Str × V)} {n : String} {k : Bool} {sp : Sp} {W : WX} {x y : V} {i j : Int}
theorem i_isi {t u : Value} {c : V} (ht : TyX K H x t) (hc : ClsV c u) (hk : PySem.W.kitOne K t u = some k) (h : Q (.bl k) H) : rIsi K [x, c] H Q := ⟨x, c, t, u, k, rfl, hc, ht, hk, h⟩
theorem i_isi_intT (h : Q (.bl true) H) (hk : kitB "int" n = some true := by decide +kernel) : rIsi K [.int i, .ty n] H Q := i_isi (.base (.int i)) (.ty n) (kit_ty hk) h
theorem i_isi_intF (h : Q (.bl false) H) (hk : kitB "int" n = some false := by decide +kernel) : rIsi K [.int i, .ty n] H Q := i_isi (.base (.int i)) (.ty n) (kit_ty hk) h
theorem i_isi_blT {z : Bool} (h : Q (.bl true) H) (hk : kitB "bool" n = some true := by decide +kernel) : rIsi K [.bl z, .ty n] H Q := i_isi (.base (.bl z)) (.ty n) (kit_ty hk) h
theorem i_isi_blF {z : Bool} (h : Q (.bl false) H) (hk : kitB "bool" n = some false := by decide +kernel) : rIsi K [.bl z, .ty n] H Q := i_isi (.base (.bl z)) (.ty n) (kit_ty hk) h
theorem i_isi_strT {z : Str} (h : Q (.bl true) H) (hk : kitB "str" n = some true := by decide +kernel) : rIsi K [.str z, .ty n] H Q := i_isi (.base (.str z)) (.ty n) (kit_ty hk) h
theorem i_isi_strF {z : Str} (h : Q (.bl false) H) (hk : kitB "str" n = some false := by decide +kernel) : rIsi K [.str z, .ty n] H Q := i_isi (.base (.str z)) (.ty n) (kit_ty hk) h
theorem i_isi_nonT (h : Q (.bl true) H) (hk : kitB "NoneType" n = some true := by decide +kernel) : rIsi K [.non, .ty n] H Q := i_isi (.base .non) (.ty n) (kit_ty hk) h
theorem i_isi_nonF (h : Q (.bl false) H) (hk : kitB "NoneType" n = some false := by decide +kernel) : rIsi K [.non, .ty n] H Q := i_isi (.base .non) (.ty n) (kit_ty hk) h
theorem i_isi_lstT {xs : List V} (ha : H a = some (.lst xs)) (h : Q (.bl true) H) (hk : kitB "list" n = some true := by decide +kernel) : rIsi K [.ref a, .ty n] H Q := i_isi (.base (.lst ha)) (.ty n) (kit_ty hk) h
theorem i_isi_lstF {xs : List V} (ha : H a = some (.lst xs)) (h : Q (.bl false) H) (hk : kitB "list" n = some false := by decide +kernel) : rIsi K [.ref a, .ty n] H Q := i_isi (.base (.lst ha)) (.ty n) (kit_ty hk) h
theorem i_isi_tupT {xs : List V} (ha : H a = some (.tup xs)) (h : Q (.bl true) H) (hk : kitB "tuple" n = some true := by decide +kernel) : rIsi K [.ref a, .ty n] H Q := i_isi (.base (.tup ha)) (.ty n) (kit_ty hk) h
theorem i_isi_tupF {xs : List V} (ha : H a = some (.tup xs)) (h : Q (.bl false) H) (hk : kitB "tuple" n = some false := by decide +kernel) : rIsi K [.ref a, .ty n] H Q := i_isi (.base (.tup ha)) (.ty n) (kit_ty hk) h
theorem i_isi_own (c : IsiC K C) (ha : H a = some (.ins C dx fs)) (h : Q (.bl true) H) : rIsi K [.ref a, .ref C] H Q := i_isi (.base (.ins ha c.ic.cl c.ic.ha c.ic.hn c.ic.htk c.ic.hm)) (.own C) c.ic.me h
theorem i_isi_ownTy (c : IsiC K C) (ha : H a = some (.ins C dx fs)) (h : Q (.bl false) H) (hn : n ∈ ["int", "bool", "str", "list", "tuple"] := by decide) : rIsi K [.ref a, .ty n] H Q := i_isi (.base (.ins ha c.ic.cl c.ic.ha c.ic.hn c.ic.htk c.ic.hm)) (.ty n) (c.on n hn) h
theorem i_isi_intOwn (c : IsiC K C) (h : Q (.bl false) H) : rIsi K [.int i, .ref C] H Q := i_isi (.base (.int i)) (.own C) (c.no "int" (by decide)) h
/-! own operators -/
theorem i_own (ha : H a = some (.ins C dx fs)) (hb : H b = some (.ins C dy gs)) (h : sp [.ref a, .ref b] H Q (WE W σ)) : rOwn C sp W σ (.ref a) (.ref b) H Q := ⟨a, dx, fs, rfl, ha, .inl ⟨b, dy, gs, rfl, hb⟩, h⟩
theorem i_ownI (ha : H a = some (.ins C dx fs)) (h : sp [.ref a, .int j] H Q (WE W σ)) : rOwn C sp W σ (.ref a) (.int j) H Q := ⟨a, dx, fs, rfl, ha, .inr ⟨j, rfl⟩, h⟩
theorem i_rown (hb : H b = some (.ins C dx fs)) (h : sp [.ref b, .int i] H Q (WE W σ)) : rROwn C sp W σ (.int i) (.ref b) H Q := ⟨i, b, dx, fs, rfl, rfl, hb, h⟩
theorem i_own1 (ha : H a = some (.ins C dx fs)) (h : sp [.ref a] H Q (WE W σ)) : rOwn1 C sp W σ (.ref a) H Q := ⟨a, dx, fs, rfl, ha, h⟩
/-- C(..): the maker's start -/
theorem i_newI {vs : List V} {E : XK} (h : ∀ x dx H', H x = none → Keep [] H H' → H' x = some (.ins C dx []) → sp (.ref x :: vs) H' (fun v H2 => v = .non ∧ Q (.ref x) H2) E) : NewI C sp vs E H Q := by
  intro x dx hx hdx hne
  refine h x dx _ hx ?_ upd_same
  have k1 : Keep [] H (upd H dx (.own x)) := Keep.new hdx
  refine k1.trans (Keep.new ?_)
  rw [upd_ne (Ne.symm hne)]
  exact hx
end
end PB
namespace PB
open PySem PySem.Spec PyProof.Rows L2
/-! ## keywords -/
/-- f(e, .., k = v, ..) where every parameter is given, of a def with defaults -/
theorem kbD {K : PySem.W.Frag} {x qual : Str} {params : Arguments} {body : List Stmt} {scope : Scope} {dvs : List V} {kws : List (Str × V)} {f : Addr} {fd : FuncData} {ps : List Str} (F : FunD K x qual params body scope dvs kws f fd) (n : Nat) (ks : List Str) (g : {α : Type} → List α → List α → List α) (hd : dvs ≠ [])
    (hrel : ∀ {vs zs : List V} {us ws : List Value}, Vals vs us → Vals zs ws → Vals (g vs zs) (g us ws))
    (h : ∀ (T : Addr) (kV doc pm : Value) (an : Option Addr) (cdv ct : Value) (us its ws : List Value), us.length = n → its.length = dvs.length → ws.length = ks.length →
      ∃ k, bindArgs (PySem.W.fnOf x qual params body scope (.ref T) kV doc pm an cdv ct) ⟨us, ks.zip ws⟩ = seqItems? (.ref T) >>= k ∧ k (some its.toArray) = pure (ps.zip (g us ws))) : KBn K fd ps n ks (fun us ws => g us ws) (fun vs zs => g vs zs) := by
  obtain ⟨oc, od, dV, kV, doc, pm, an, cdv, ct, osl, rfl, lk, hcd, hD, hK⟩ := F.ex
  rcases hD with ⟨e, _⟩ | ⟨_, T, o, its, m, rfl, lT, oT, rT⟩
  · exact absurd e hd
  · refine ⟨fun s us ws X l1 l2 => ?_, fun r1 r2 => hrel r1 r2⟩
    obtain ⟨k, e1, e2⟩ := h T kV doc pm an cdv ct us its ws l1 rT.length.symm l2
    refine BindsTo.of_looks fun M => ?_
    rw [e1]
    exact looks_items X lT oT (.of_pure e2)
/-- the same of a def without defaults -/
theorem kbN {K : PySem.W.Frag} {x qual : Str} {params : Arguments} {body : List Stmt} {scope : Scope} {kws : List (Str × V)} {f : Addr} {fd : FuncData} {ps : List Str} (F : FunD K x qual params body scope [] kws f fd) (n : Nat) (ks : List Str) (g : {α : Type} → List α → List α → List α)
    (hrel : ∀ {vs zs : List V} {us ws : List Value}, Vals vs us → Vals zs ws → Vals (g vs zs) (g us ws))
    (h : ∀ (kV doc pm : Value) (an : Option Addr) (cdv ct : Value) (us ws : List Value), us.length = n → ws.length = ks.length →
      bindArgs (PySem.W.fnOf x qual params body scope .none kV doc pm an cdv ct) ⟨us, ks.zip ws⟩ = pure (ps.zip (g us ws))) : KBn K fd ps n ks (fun us ws => g us ws) (fun vs zs => g vs zs) := by
  obtain ⟨oc, od, dV, kV, doc, pm, an, cdv, ct, osl, rfl, lk, hcd, hD, hK⟩ := F.ex
  rcases hD with ⟨_, rfl⟩ | ⟨e, _⟩
  · exact ⟨fun s us ws X l1 l2 => .of_eq (h kV doc pm an cdv ct us ws l1 l2), fun r1 r2 => hrel r1 r2⟩
  · exact absurd rfl e
theorem i_makeK0 {σ : L2.St} {H : Hp} {Q : VK} {C : Addr} {m : Nat} {sp : Sp} {E : XK} {tk : TA} (h : tk σ H fun zs H2 => zs.length = m ∧ NewI C sp zs E H2 Q) : tMakeK C 0 m sp (fun vs zs => vs ++ zs) E tNil tk σ H Q := by
  have e : (fun zs H2 => zs.length = m ∧ NewI C sp zs E H2 Q) = fun (zs : List V) (H2 : Hp) => ([] : List V).length = 0 ∧ zs.length = m ∧ NewI C sp zs E H2 Q := by
    funext zs H2
    simp
  rw [e] at h
  exact h
/-! ## walks by names -/
def LcJ (J : It) (g : TG) (tt : TT) (te : TE) (vs : List Nat) (σ : L2.St) (Q : VK) (H1 : Hp) : Prop := ∀ D, H1 D = none → ∃ W : Nat → Nat → Hp → Prop, (∃ m, W 0 m (upd H1 D (.lst []))) ∧ ∀ i m H, W i m H →
  (J.stop i H ∧ Q (.ref D) H) ∨ (J.go i H ∧ ∃ Nx : Hp → Prop, (∀ H', Nx H' → ∃ m', m' < m ∧ W (i + 1) m' H') ∧ ∀ x H', J.yld i H x H' → g x (wipe σ vs) H' fun σ2 H2 => wipe σ2 vs = wipe σ vs ∧ tt σ2 H2 fun b H3 =>
    if b = true then te σ2 H3 fun y H4 => ∃ acc, H4 D = some (.lst acc) ∧ acc.length < sizeLine ∧ Nx (upd H4 D (.lst (acc ++ [y]))) else Nx H3)
def ForJ (J : It) (g : TG) (tb : TS) (D : Ends) (σ : L2.St) (H1 : Hp) : Prop := ∃ W : Nat → Nat → L2.St → Hp → Prop, (∃ m, W 0 m σ H1) ∧ ∀ i m σ H, W i m σ H →
  (J.stop i H ∧ D.nx σ H) ∨ (J.go i H ∧ ∃ N : L2.St → Hp → Prop, (∀ σ' H', N σ' H' → ∃ m', m' < m ∧ W (i + 1) m' σ' H') ∧ ∀ x H', J.yld i H x H' → g x σ H' fun σ2 H2 => tb { D with nx := N, ct := N, bk := D.nx } σ2 H2)
def ItL (K : PySem.W.Frag) (R : It → Hp → Prop) (x : V) (H : Hp) : Prop := ∃ a, x = .ref a ∧ (∃ xs, SqL K H a xs) ∧ R (Itl K a) H
def ItT (K : PySem.W.Frag) (R : It → Hp → Prop) (x : V) (H : Hp) : Prop := ∃ a, x = .ref a ∧ (∃ xs, SqT K H a xs) ∧ R (Itt K a) H
def ItR1 (R : It → Hp → Prop) (vs : List V) (H : Hp) : Prop := ∃ j : Int, vs = [.int j] ∧ -(2 ^ 62) ≤ j ∧ j < 2 ^ 62 ∧ R (Itr 0 j.toNat) H
def ItR2 (R : It → Hp → Prop) (vs : List V) (H : Hp) : Prop := ∃ i j : Int, vs = [.int i, .int j] ∧ (-(2 ^ 62) ≤ i ∧ i < 2 ^ 62 ∧ -(2 ^ 62) ≤ j ∧ j < 2 ^ 62) ∧ R (Itr i (j - i).toNat) H
/-- the end of a comprehension's turn -/
def LcPut (D : Addr) (Nx : Hp → Prop) (y : V) (H : Hp) : Prop := ∃ acc, H D = some (.lst acc) ∧ acc.length < sizeLine ∧ Nx (upd H D (.lst (acc ++ [y])))
section
variable {σ : L2.St} {H : Hp} {Q : VK} {K : PySem.W.Frag} {a : Addr} {xs : List V} {g : TG} {tt : TT} {te : TE} {vs : List Nat} {ta : TE} {tA : TA} {D : Ends} {tb : TS} {wi : TI} {R : It → Hp → Prop}
theorem i_lc (h : wi σ H fun J H1 => LcJ J g tt te vs σ Q H1) : tLc wi g tt te vs σ H Q := h
theorem i_for (h : wi σ H fun J H1 => ForJ J g tb D σ H1) : tFor wi g tb D σ H := h
theorem i_iList (h : ta σ H fun x H1 => ItL K R x H1) : iList K ta σ H R := h
theorem i_iTup (h : ta σ H fun x H1 => ItT K R x H1) : iTup K ta σ H R := h
theorem i_iRng1 (h : tA σ H fun x H1 => ItR1 R x H1) : iRng1 tA σ H R := h
theorem i_iRng2 (h : tA σ H fun x H1 => ItR2 R x H1) : iRng2 tA σ H R := h
theorem i_itL (hs : SqL K H a xs) (h : R (Itl K a) H) : ItL K R (.ref a) H := ⟨a, rfl, ⟨xs, hs⟩, h⟩
theorem i_itT (hs : SqT K H a xs) (h : R (Itt K a) H) : ItT K R (.ref a) H := ⟨a, rfl, ⟨xs, hs⟩, h⟩
theorem i_itR1 {n : Int} (h0 : -4611686018427387904 ≤ n) (h1 : n < 4611686018427387904) (h : R (Itr 0 n.toNat) H) : ItR1 R [.int n] H := ⟨n, rfl, by omega, by omega, h⟩
theorem i_itR2 {m n : Int} (h0 : -4611686018427387904 ≤ m ∧ m < 4611686018427387904 ∧ -4611686018427387904 ≤ n ∧ n < 4611686018427387904) (h : R (Itr m (n - m).toNat) H) : ItR2 R [.int m, .int n] H := ⟨m, n, rfl, by omega, h⟩
theorem i_yes {G : Bool → Hp → Prop} (h : G true H) : tYes σ H G := h
/-- [e for x in xs] -/
theorem r_lcL (hs : SqL K H a xs) (h : ∀ Dl H1, H Dl = none → Keep [] H H1 → H1 Dl = some (.lst []) → ∃ Pv : Nat → Hp → Prop, Pv 0 H1 ∧ (∀ i H2, i ≤ xs.length → Pv i H2 → SqL K H2 a xs) ∧
    (∀ i x H2, xs[i]? = some x → Pv i H2 → g x (wipe σ vs) H2 fun σ2 H3 => wipe σ2 vs = wipe σ vs ∧ tt σ2 H3 fun b H4 => if b = true then te σ2 H4 fun y H5 => LcPut Dl (Pv (i + 1)) y H5 else Pv (i + 1) H4) ∧
    ∀ H2, Pv xs.length H2 → Q (.ref Dl) H2) : LcJ (Itl K a) g tt te vs σ Q H := by
  intro Dl hD
  obtain ⟨Pv, p0, pl, ps, pd⟩ := h Dl _ hD (Keep.new hD) upd_same
  exact lc_list Pv p0 pl ps pd
theorem r_lcR {lo : Int} {n : Nat} (h : ∀ Dl H1, H Dl = none → Keep [] H H1 → H1 Dl = some (.lst []) → ∃ Pv : Nat → Hp → Prop, Pv 0 H1 ∧
    (∀ i H2, i < n → Pv i H2 → g (.int (lo + i)) (wipe σ vs) H2 fun σ2 H3 => wipe σ2 vs = wipe σ vs ∧ tt σ2 H3 fun b H4 => if b = true then te σ2 H4 fun y H5 => LcPut Dl (Pv (i + 1)) y H5 else Pv (i + 1) H4) ∧
    ∀ H2, Pv n H2 → Q (.ref Dl) H2) : LcJ (Itr lo n) g tt te vs σ Q H := by
  intro Dl hD
  obtain ⟨Pv, p0, ps, pd⟩ := h Dl _ hD (Keep.new hD) upd_same
  exact lc_range Pv p0 ps pd
theorem r_lcT (hs : SqT K H a xs) (h : ∀ Dl H1, H Dl = none → Keep [] H H1 → H1 Dl = some (.lst []) → ∃ Pv : Nat → Hp → Prop, Pv 0 H1 ∧ (∀ i H2, i ≤ xs.length → Pv i H2 → SqT K H2 a xs) ∧
    (∀ i x H2, xs[i]? = some x → Pv i H2 → g x (wipe σ vs) H2 fun σ2 H3 => wipe σ2 vs = wipe σ vs ∧ tt σ2 H3 fun b H4 => if b = true then te σ2 H4 fun y H5 => LcPut Dl (Pv (i + 1)) y H5 else Pv (i + 1) H4) ∧
    ∀ H2, Pv xs.length H2 → Q (.ref Dl) H2) : LcJ (Itt K a) g tt te vs σ Q H := by
  intro Dl hD
  obtain ⟨Pv, p0, pl, ps, pd⟩ := h Dl _ hD (Keep.new hD) upd_same
  exact lc_tup Pv p0 pl ps pd
theorem i_put {Dl : Addr} {Nx : Hp → Prop} {y : V} {acc : List V} (ho : H Dl = some (.lst acc)) (hz : acc.length < sizeLine) (h : ∀ H', Keep [Dl] H H' → H' Dl = some (.lst (acc ++ [y])) → Nx H') : LcPut Dl Nx y H :=
  ⟨acc, ho, hz, h _ (Keep.set' (by simp) ho (fun z => z)) upd_same⟩
/-- for x in xs -/
theorem r_forL (hs : SqL K H a xs) (Pv : Nat → L2.St → Hp → Prop) (h0 : Pv 0 σ H) (hl : ∀ i σ' H', i ≤ xs.length → Pv i σ' H' → SqL K H' a xs)
    (ht : ∀ i x σ' H', xs[i]? = some x → Pv i σ' H' → g x σ' H' fun σ2 H2 => tb { D with nx := Pv (i + 1), ct := Pv (i + 1), bk := D.nx } σ2 H2) (hd : ∀ σ' H', Pv xs.length σ' H' → D.nx σ' H') : ForJ (Itl K a) g tb D σ H := for_list Pv h0 hl ht hd
theorem r_forT (hs : SqT K H a xs) (Pv : Nat → L2.St → Hp → Prop) (h0 : Pv 0 σ H) (hl : ∀ i σ' H', i ≤ xs.length → Pv i σ' H' → SqT K H' a xs)
    (ht : ∀ i x σ' H', xs[i]? = some x → Pv i σ' H' → g x σ' H' fun σ2 H2 => tb { D with nx := Pv (i + 1), ct := Pv (i + 1), bk := D.nx } σ2 H2) (hd : ∀ σ' H', Pv xs.length σ' H' → D.nx σ' H') : ForJ (Itt K a) g tb D σ H := for_tup Pv h0 hl ht hd
theorem r_forR {lo : Int} {n : Nat} (Pv : Nat → L2.St → Hp → Prop) (h0 : Pv 0 σ H)
    (ht : ∀ i σ' H', i < n → Pv i σ' H' → g (.int (lo + i)) σ' H' fun σ2 H2 => tb { D with nx := Pv (i + 1), ct := Pv (i + 1), bk := D.nx } σ2 H2) (hd : ∀ σ' H', Pv n σ' H' → D.nx σ' H') : ForJ (Itr lo n) g tb D σ H := for_range Pv h0 ht hd
theorem i_all {bs : List Bool} (hs : SqL K H a (bs.map V.bl)) (h : Q (.bl (bs.all id)) H) : rAll K [.ref a] H Q := ⟨a, bs, rfl, hs, h⟩
theorem i_len {n : Nat} {x : V} {G : V → Nat → Prop} (hl : LenV K x H n) (h : Q (.int n) H) : ∃ x' n', [x] = [x'] ∧ LenV K x' H n' ∧ Q (.int (n' : Nat)) H := ⟨x, n, rfl, hl, h⟩
end
end PB
local macro_rules | `(tactic| walk_at "pb1") => `(tactic| with_reducible (first | apply PB.i_lc | apply PB.i_for | apply PB.i_iList | apply PB.i_iTup | apply PB.i_iRng1 | apply PB.i_iRng2 | apply PB.i_yes | apply PB.i_makeK0))
namespace PB
open PySem PySem.Spec PyProof.Rows L2
/-! ## unions with slots -/
theorem opS_of {X : Cx} {f : Value → Value → Sem Value} {r : R2} (h : OpR X f r) : OpRS X f (fun _ => r) := fun pins s σ H x y v u Q I rx ry q => h pins s σ H x y v u Q I rx ry q
theorem opS_or {X : Cx} {f : Value → Value → Sem Value} {r r' : L2.St → R2} (h : OpRS X f r) (h' : OpRS X f r') : OpRS X f (fun σ x y H Q => r σ x y H Q ∨ r' σ x y H Q) :=
  fun pins s σ H x y v u Q I rx ry q => q.elim (fun q => h pins s σ H x y v u Q I rx ry q) fun q => h' pins s σ H x y v u Q I rx ry q
/-! ## sizes -/
theorem sz_mul {i j : Int} {a b n : Nat} (h : i.natAbs < 2 ^ a) (g : j.natAbs < 2 ^ b) (hn : a + b ≤ n) : (i * j).natAbs < 2 ^ n := Nat.lt_of_lt_of_le (wide_lt h g) (Nat.pow_le_pow_right (by decide) hn)
theorem sz_mono {i : Int} {a n : Nat} (h : i.natAbs < 2 ^ a) (hn : a ≤ n) : i.natAbs < 2 ^ n := Nat.lt_of_lt_of_le h (Nat.pow_le_pow_right (by decide) hn)
theorem sz_add {i j : Int} {a b n : Nat} (h : i.natAbs < 2 ^ a) (g : j.natAbs < 2 ^ b) (ha : a < n) (hb : b < n) : (i + j).natAbs < 2 ^ n := by
  have h1 := sz_mono (n := n - 1) h (by omega)
  have h2 := sz_mono (n := n - 1) g (by omega)
  have e : 2 ^ n = 2 ^ (n - 1) * 2 := by rw [← Nat.pow_succ]; congr 1; omega
  rw [e]
  omega
theorem sz_sub {i j : Int} {a b n : Nat} (h : i.natAbs < 2 ^ a) (g : j.natAbs < 2 ^ b) (ha : a < n) (hb : b < n) : (i - j).natAbs < 2 ^ n := by
  have e : i - j = i + -j := by omega
  rw [e]
  exact sz_add h (by rw [Int.natAbs_neg]; exact g) ha hb
theorem sz_fdiv (i j : Int) : (i.fdiv j).natAbs ≤ i.natAbs := by
  rcases Int.le_total 0 j with h | h
  · rw [Int.fdiv_eq_ediv_of_nonneg _ h]
    exact Int.natAbs_ediv_le_natAbs ..
  · rw [← Int.neg_fdiv_neg, Int.fdiv_eq_ediv_of_nonneg _ (show 0 ≤ -j by omega)]
    have := Int.natAbs_ediv_le_natAbs (-i) (-j)
    rw [Int.natAbs_neg i] at this
    exact this
theorem fdiv_scale (p q c : Int) (hc : c ≠ 0) : (p * c).fdiv (q * c) = p.fdiv q := by
  rcases Int.lt_or_gt_of_ne hc with h | h
  · rw [← Int.neg_fdiv_neg, ← Int.mul_neg, ← Int.mul_neg, Int.mul_comm p, Int.mul_comm q]
    exact Int.mul_fdiv_mul_of_pos _ _ (by omega)
  · rw [Int.mul_comm p, Int.mul_comm q]
    exact Int.mul_fdiv_mul_of_pos _ _ h
/-- the same fraction, the same floor -/
theorem fdiv_cross {p q p' q' : Int} (hq : q ≠ 0) (hq' : q' ≠ 0) (e : p * q' = p' * q) : p.fdiv q = p'.fdiv q' := by
  rw [← fdiv_scale p q q' hq', e, ← fdiv_scale p' q' q hq, Int.mul_comm q q']
end PB
namespace PB
open PySem PySem.Spec PyProof.Rows L2
/-! ## isinstance of several built-in types -/
def kitsB (a : String) : List String → Option Bool
  | [] => some false
  | b :: bs => match kitB a b with
    | some true => some true
    | some false => kitsB a bs
    | none => none
theorem kits_ty {K : PySem.W.Frag} {a : String} {r : Bool} : ∀ {bs : List String}, kitsB a bs = some r → PySem.W.kitAny K (.type a) (bs.map Value.type) = some r
  | [], h => h
  | b :: bs, h => by
    unfold kitsB at h
    cases e : kitB a b with
    | none => rw [e] at h; cases h
    | some k =>
      rw [e] at h
      cases k with
      | true =>
        cases h
        exact kitAny_cons (kit_ty e) (fun z => nomatch z) fun _ => rfl
      | false => exact kitAny_cons (kit_ty e) (fun _ => kits_ty h) fun z => nomatch z
theorem cls_tys : ∀ bs : List String, Paired ClsV (bs.map V.ty) (bs.map Value.type)
  | [] => .nil
  | b :: bs => .cons (.ty b) (cls_tys bs)
section
variable {K : PySem.W.Frag} {H : Hp} {Q : VK} {σ : L2.St} {x : V} {n : String} {k : Bool} {tp : Addr}
theorem i_isiT (bs : List String) (hT : H tp = some (.tup (bs.map V.ty))) (ht : TyOf K H x (.type n)) (hk : kitsB n bs = some k) (h : Q (.bl k) H) : rIsiT K [x, .ref tp] H Q :=
  ⟨x, tp, _, _, _, k, rfl, hT, cls_tys bs, .base ht, kits_ty hk, h⟩
theorem i_isiB {m : String} (ht : TyOf K H x (.type n)) (hk : kitB n m = some k) (h : Q (.bl k) H) : rIsi K [x, .ty m] H Q := i_isi (.base ht) (.ty m) (kit_ty hk) h
/-! ## zip in comprehensions -/
def ItZ (K : PySem.W.Frag) (R : It → Hp → Prop) (vs : List V) (H1 : Hp) : Prop := ∃ a b xs ys, vs = [.ref a, .ref b] ∧ ((SqL K H1 a xs ∧ SqL K H1 b ys ∧ R (Itz K a b) H1) ∨ (SqT K H1 a xs ∧ SqT K H1 b ys ∧ R (RZ.ItzT K a b) H1))
variable {a b : Addr} {xs ys : List V} {g : TG} {tt : TT} {te : TE} {vs : List Nat} {tA : TA} {R : It → Hp → Prop} {D : Ends} {tb : TS}
theorem i_iZipA (h : tA σ H fun vs H1 => ItZ K R vs H1) : RZ.iZipA K tA σ H R := h
theorem i_itZL (h1 : SqL K H a xs) (h2 : SqL K H b ys) (h : R (Itz K a b) H) : ItZ K R [.ref a, .ref b] H := ⟨a, b, xs, ys, rfl, .inl ⟨h1, h2, h⟩⟩
theorem i_itZT (h1 : SqT K H a xs) (h2 : SqT K H b ys) (h : R (RZ.ItzT K a b) H) : ItZ K R [.ref a, .ref b] H := ⟨a, b, xs, ys, rfl, .inr ⟨h1, h2, h⟩⟩
theorem r_lcZL (hl : xs.length = ys.length) (h : ∀ Dl H1, H Dl = none → Keep [] H H1 → H1 Dl = some (.lst []) → ∃ Pv : Nat → Hp → Prop, Pv 0 H1 ∧ (∀ i H2, Pv i H2 → SqL K H2 a xs ∧ SqL K H2 b ys) ∧
    (∀ i x y T H2 H3, xs[i]? = some x → ys[i]? = some y → Pv i H2 → H2 T = none → Keep [] H2 H3 → H3 T = some (.tup [x, y]) → g (.ref T) (wipe σ vs) H3 fun σ2 H3 => wipe σ2 vs = wipe σ vs ∧ tt σ2 H3 fun b H4 => if b = true then te σ2 H4 fun y H5 => LcPut Dl (Pv (i + 1)) y H5 else Pv (i + 1) H4) ∧
    ∀ H2, Pv xs.length H2 → Q (.ref Dl) H2) : LcJ (Itz K a b) g tt te vs σ Q H := by
  intro Dl hD
  obtain ⟨Pv, p0, pl, ps, pd⟩ := h Dl _ hD (Keep.new hD) upd_same
  refine ⟨fun i m H => m = xs.length - i ∧ i ≤ xs.length ∧ Pv i H, ⟨xs.length, rfl, Nat.zero_le _, p0⟩, ?_⟩
  rintro i m H ⟨rfl, hi, p⟩
  obtain ⟨qx, qy⟩ := pl i H p
  by_cases hlt : i < xs.length
  · have hx : xs[i]? = some xs[i] := List.getElem?_eq_getElem hlt
    have hlt2 : i < ys.length := by omega
    have hy : ys[i]? = some ys[i] := List.getElem?_eq_getElem hlt2
    refine .inr ⟨⟨xs, ys, _, _, qx, qy, hx, hy⟩, Pv (i + 1), fun H' p' => ⟨xs.length - (i + 1), by omega, rfl, hlt, p'⟩, fun v H' y => ?_⟩
    obtain ⟨T, x', y', rfl, hT, rfl, f1, f2⟩ := y
    exact ps i x' y' T H _ (f1 xs qx) (f2 ys qy) p hT (Keep.new hT) upd_same
  · have e : i = xs.length := by omega
    subst e
    exact .inl ⟨⟨xs, ys, qx, qy, Or.inl (Nat.le_refl _)⟩, pd H p⟩
theorem r_lcZT (hl : xs.length = ys.length) (h : ∀ Dl H1, H Dl = none → Keep [] H H1 → H1 Dl = some (.lst []) → ∃ Pv : Nat → Hp → Prop, Pv 0 H1 ∧ (∀ i H2, Pv i H2 → SqT K H2 a xs ∧ SqT K H2 b ys) ∧
    (∀ i x y T H2 H3, xs[i]? = some x → ys[i]? = some y → Pv i H2 → H2 T = none → Keep [] H2 H3 → H3 T = some (.tup [x, y]) → g (.ref T) (wipe σ vs) H3 fun σ2 H3 => wipe σ2 vs = wipe σ vs ∧ tt σ2 H3 fun b H4 => if b = true then te σ2 H4 fun y H5 => LcPut Dl (Pv (i + 1)) y H5 else Pv (i + 1) H4) ∧
    ∀ H2, Pv xs.length H2 → Q (.ref Dl) H2) : LcJ (RZ.ItzT K a b) g tt te vs σ Q H := by
  intro Dl hD
  obtain ⟨Pv, p0, pl, ps, pd⟩ := h Dl _ hD (Keep.new hD) upd_same
  refine ⟨fun i m H => m = xs.length - i ∧ i ≤ xs.length ∧ Pv i H, ⟨xs.length, rfl, Nat.zero_le _, p0⟩, ?_⟩
  rintro i m H ⟨rfl, hi, p⟩
  obtain ⟨qx, qy⟩ := pl i H p
  by_cases hlt : i < xs.length
  · have hx : xs[i]? = some xs[i] := List.getElem?_eq_getElem hlt
    have hlt2 : i < ys.length := by omega
    have hy : ys[i]? = some ys[i] := List.getElem?_eq_getElem hlt2
    refine .inr ⟨⟨xs, ys, _, _, qx, qy, hx, hy⟩, Pv (i + 1), fun H' p' => ⟨xs.length - (i + 1), by omega, rfl, hlt, p'⟩, fun v H' y => ?_⟩
    obtain ⟨T, x', y', rfl, hT, rfl, f1, f2⟩ := y
    exact ps i x' y' T H _ (f1 xs qx) (f2 ys qy) p hT (Keep.new hT) upd_same
  · have e : i = xs.length := by omega
    subst e
    exact .inl ⟨⟨xs, ys, qx, qy, Or.inl (Nat.le_refl _)⟩, pd H p⟩
end
section
variable {K : PySem.W.Frag} {H : Hp} {Q : VK} {a : Addr} {xs : List V}
theorem call_lenN {X : Cx} : CallR X (.builtin "len") (rLen X.K) := call_len
theorem i_lenL (hs : SqL K H a xs) (h : Q (.int xs.length) H) : rLen K [.ref a] H Q := ⟨_, _, rfl, .inl ⟨xs, hs, rfl⟩, h⟩
theorem i_lenT (hs : SqT K H a xs) (h : Q (.int xs.length) H) : rLen K [.ref a] H Q := ⟨_, _, rfl, .inr ⟨xs, hs, rfl⟩, h⟩
theorem i_isB {p q : Bool} (h : Q (.bl (decide (p = q))) H) : rIsB (.bl p) (.bl q) H Q := ⟨p, q, rfl, rfl, h⟩
end
theorem b_eqR {A B : Prop} {x : V} (h : A) : if decide (x = x) = true then A else B := by rw [if_pos (by simp)]; exact h
theorem b_neR {A B : Prop} {x : V} (h : B) : if (!decide (x = x)) = true then A else B := by rw [if_neg (by simp)]; exact h
theorem all_rep (n : Nat) : (List.replicate n true).all id = true := by
  rw [List.all_eq_true]
  intro x hx
  exact (List.mem_replicate.mp hx).2
/-! ## the same data -/
/-- x and y are the same data, at most n lists and tuples deep -/
inductive Sm (H : Hp) : Nat → V → V → Prop
  | int {n : Nat} (i : Int) : Sm H n (.int i) (.int i)
  | bl {n : Nat} (i : Bool) : Sm H n (.bl i) (.bl i)
  | str {n : Nat} (i : Str) : Sm H n (.str i) (.str i)
  | non {n : Nat} : Sm H n .non .non
  | lst {n : Nat} {a b : Addr} {xs ys : List V} (ha : H a = some (.lst xs)) (hb : H b = some (.lst ys)) (hz : xs.length ≤ 100000) (hl : xs.length = ys.length) (he : ∀ (i : Nat) (x y : V), xs[i]? = some x → ys[i]? = some y → Sm H n x y) : Sm H (n + 1) (.ref a) (.ref b)
  | tup {n : Nat} {a b : Addr} {xs ys : List V} (ha : H a = some (.tup xs)) (hb : H b = some (.tup ys)) (hz : xs.length ≤ 100000) (hl : xs.length = ys.length) (he : ∀ (i : Nat) (x y : V), xs[i]? = some x → ys[i]? = some y → Sm H n x y) : Sm H (n + 1) (.ref a) (.ref b)
theorem Sm.keep {H H' : Hp} (k : Keep [] H H') {n : Nat} {x y : V} (h : Sm H n x y) : Sm H' n x y := by
  induction h with
  | int i => exact .int i
  | bl i => exact .bl i
  | str i => exact .str i
  | non => exact .non
  | lst ha hb hz hl _ ih => exact .lst (k.at_ _ _ (by simp) ha) (k.at_ _ _ (by simp) hb) hz hl ih
  | tup ha hb hz hl _ ih => exact .tup (k.at_ _ _ (by simp) ha) (k.at_ _ _ (by simp) hb) hz hl ih
theorem Sm.mono {H : Hp} {n : Nat} {x y : V} (h : Sm H n x y) : ∀ {m : Nat}, n ≤ m → Sm H m x y := by
  induction h with
  | int i => exact fun _ => .int i
  | bl i => exact fun _ => .bl i
  | str i => exact fun _ => .str i
  | non => exact fun _ => .non
  | lst ha hb hz hl _ ih =>
    intro m hm
    obtain ⟨m, rfl⟩ : ∃ k, m = k + 1 := ⟨m - 1, by omega⟩
    exact .lst ha hb hz hl fun i x y h1 h2 => ih i x y h1 h2 (by omega)
  | tup ha hb hz hl _ ih =>
    intro m hm
    obtain ⟨m, rfl⟩ : ∃ k, m = k + 1 := ⟨m - 1, by omega⟩
    exact .tup ha hb hz hl fun i x y h1 h2 => ih i x y h1 h2 (by omega)
/-- a scalar is the same as itself -/
def isSc : V → Prop
  | .int _ => True
  | .bl _ => True
  | .str _ => True
  | .non => True
  | _ => False
theorem Sm.sc {H : Hp} {n : Nat} : ∀ {x : V}, isSc x → Sm H n x x
  | .int i, _ => .int i
  | .bl i, _ => .bl i
  | .str i, _ => .str i
  | .non, _ => .non
/-- two lists of the same scalars -/
theorem Sm.lstS {H : Hp} {n : Nat} {a b : Addr} {xs : List V} (ha : H a = some (.lst xs)) (hb : H b = some (.lst xs)) (hs : ∀ x ∈ xs, isSc x) (hz : xs.length ≤ 100000) : Sm H (n + 1) (.ref a) (.ref b) :=
  .lst ha hb hz rfl fun i x y h1 h2 => by
    rw [h1] at h2
    cases h2
    exact .sc (hs x (List.mem_of_getElem? h1))
theorem Sm.tupS {H : Hp} {n : Nat} {a b : Addr} {xs : List V} (ha : H a = some (.tup xs)) (hb : H b = some (.tup xs)) (hs : ∀ x ∈ xs, isSc x) (hz : xs.length ≤ 100000) : Sm H (n + 1) (.ref a) (.ref b) :=
  .tup ha hb hz rfl fun i x y h1 h2 => by
    rw [h1] at h2
    cases h2
    exact .sc (hs x (List.mem_of_getElem? h1))
def spSame (n : Nat) : Sp := fun vs H Q _ => ∃ x y, vs = [x, y] ∧ Sm H n x y ∧ ∀ H', Keep [] H H' → Q (.bl true) H'
def spSameN : Nat → Sp
  | 0 => fun _ _ _ _ => False
  | n + 1 => spSame n
end PB
local macro_rules | `(tactic| walk_at "pb1") => `(tactic| with_reducible (first | apply PB.i_iZipA | apply PB.b_eqR | apply PB.b_neR | apply PB.i_isB))
namespace PB
open PySem PySem.W PyProof.Rows Builtin
/-! ## != by an own __eq__, bool, str of own instances -/
section
variable {M : Model} {prog : Program} {w : World} {A : Around} {E : Value → Shared → Prop} {s : Shared} {K : Frag} {x C L f : Addr} {h₀ : Heap} {m : Str → Option Value} {ox : Obj} {od : Option Obj} {b tb : Value}
theorem ifBound_objNe {args : List Value} {Q : Option Value → Shared → Prop} (X : K.In s.heap) (I : InstAt s.heap x ox C od) (hs : findIn K (.ref C) "__ne__" = some (some (.builtin "object.__ne__")))
    (h : wpAny M A (call (.builtin "object.__ne__") (.ref x :: args)) (fun v => Q (some v)) E s) : wpAny M A (callSpecialIfBound? (.ref x) "__ne__" args) Q E s := by
  simp only [callSpecialIfBound?, bindSpecialIfBound?]
  refine wpAny_holding (wpAny_bind (wpAny_bind (wpAny_bind (I.type.here ((looks_findIn X hs).here ?_)))))
  refine wpAny_bind (wpAny_askSetting (wpAny_ite ?_))
  have fin : wpAny M A (call (.builtin "object.__ne__") ([.ref x] ++ args) >>= fun v => pure (some v)) Q E s := wpAny_bind (wpAny_mono h (fun v s' h' => wpAny_pure h') fun _ _ h' => h')
  split
  · exact wpAny_bind (wpAny_of_eq (PySem.F.cmp_object.ne.bind _) (wpAny_pure (by exact fin)))
  · exact wpAny_tryCatch (wpAny_bind (wpAny_of_eq (PySem.F.cmp_object.ne.bind _) (wpAny_pure (by exact fin))))
theorem objNe_K {Q : Fin → Shared → Prop} (hu : A.units < cLine) (X : K.In s.heap) (I : InstAt s.heap x ox C od) (hs : findIn K (.ref C) "__eq__" = some (some (.ref f))) (hf : isFn K (.ref f) = true)
    (h : wpAny (model prog w) A (call (.ref f) [.ref x, b]) (fun v s' => ∃ k, v = .bool k ∧ Q (.done (.ret (.bool (!k)))) s') E s) : wpAny (model prog w) A (Builtin.«object.__ne__» ⟨[.ref x, b], []⟩) Q E s := by
  unfold Builtin.«object.__ne__»
  refine wpAny_bind (wpAny_pure ?_)
  refine wpAny_bind (m := cRoomFor _ _) (wpAny_cRoomFor hu ?_)
  refine wpAny_bind (m := callSpecialIfBound? (.ref x) (Str.ofString "__eq__") [b]) (ifBound_K X I hs hf (wpAny_mono h (fun v s' hv => ?_) fun _ _ z => z))
  obtain ⟨k, rfl, q⟩ := hv
  exact wpAny_bind (m := truthy (.bool k)) (wpAny_truthy_bool (wpAny_pure q))
theorem ne_own {Q : Value → Shared → Prop} (hu : A.units + 1 < cLine) (F : Fr h₀ L s.heap m) (X₀ : K.In h₀) (I : InstAt s.heap x ox C od) (hb : Looks (model prog w) s.heap (typeOf b) tb) (hn : notFirst K C tb = true)
    (hm : mroIn K C (.type "object") = some true) (hne : findIn K (.ref C) "__ne__" = some (some (.builtin "object.__ne__"))) (hs : findIn K (.ref C) "__eq__" = some (some (.ref f))) (hf : isFn K (.ref f) = true)
    (h : wpAny (model prog w) A.in1 (call (.ref f) [.ref x, b]) (fun v s' => ∃ k, v = .bool k ∧ Q (.bool (!k)) s') E s) : wpAny (model prog w) A (compareOp .NotEq (.ref x) b) Q E s := by
  have X := X₀.keeps F.keep
  have one : wpAny (model prog w) A (tryCompare (.ref x) (cmpInfo .NotEq).2.1 b) (fun r s' => ∃ v, r = some v ∧ Q v s') E s := by
    unfold tryCompare
    refine wpAny_bind (ifBound_objNe X I hne ?_)
    refine wpAny_call (codeAny_call_builtin PySem.F.cmp_object.ne.plain PySem.F.cmpEntry_ne (check_slot PySem.F.cmpKind_ne PySem.F.cmpSplit_ne (I.type.andThen (looks_mroIn X hm)) (PySem.F.cmpArgs_ne _ _) ?_))
    refine objNe_K (A := A.in1) hu X I hs hf (wpAny_mono h (fun v s' hv => ?_) fun _ _ z => z)
    obtain ⟨k, rfl, q⟩ := hv
    exact ⟨k, rfl, wpAny_pure ⟨_, rfl, q⟩⟩
  show wpAny _ _ (richCompare .NotEq (.ref x) b) _ _ _
  unfold richCompare
  simp only [oneThing_ref]
  refine wpAny_holding (wpAny_bind (wpAny_cRoomFor (by omega) ?_))
  refine wpAny_bind (I.type.here (wpAny_bind (hb.here ?_)))
  split
  · rename_i q
    have e : subIn K tb (.ref C) = some false := by
      rcases Bool.or_eq_true_iff.mp hn with e | e
      · rw [beq_iff_eq.mp e] at q; simp at q
      · exact beq_iff_eq.mp e
    refine wpAny_bind ((looks_subIn X e).here ?_)
    simp only [Bool.false_eq_true, if_false]
    refine wpAny_bind (wpAny_mono one (fun r s' z => ?_) fun _ _ e => e)
    obtain ⟨v, rfl, hq⟩ := z
    exact wpAny_pure hq
  · refine wpAny_bind (wpAny_pure ?_)
    simp only [Bool.false_eq_true, if_false]
    refine wpAny_bind (wpAny_mono one (fun r s' z => ?_) fun _ _ e => e)
    obtain ⟨v, rfl, hq⟩ := z
    exact wpAny_pure hq
theorem bool_own {Q : Value → Shared → Prop} (F : Fr h₀ L s.heap m) (X₀ : K.In h₀) (I : InstAt s.heap x ox C od) (hs : findIn K (.ref C) "__bool__" = some (some (.ref f))) (hf : isFn K (.ref f) = true)
    (h : wpAny (model prog w) A.in1.in1 (call (.ref f) [.ref x]) (fun v s' => ∃ k, v = .bool k ∧ Q (.bool k) s') E s) : wpAny (model prog w) A (call (.type "bool") [.ref x]) Q E s := by
  refine callType_codes (T := "bool") (Bi := Builtin.«object.__init__») (Q₁ := fun r s₁ => ∃ y, r = .bool y ∧ Q r s₁) PySem.F.called_bool (PySem.F.typeCall_bool_1 _) PySem.F.entry_object_init ?_ ?_
  · refine codeAny_of_tree ?_
    show wpAny _ A.in1.in1 (do checkBuiltinCall "bool.__new__" ⟨[.type "bool", .ref x], []⟩; again (.builtin "bool.__new__" ⟨[.type "bool", .ref x], []⟩)) _ _ s
    refine wpAny_bind (wpAny_of_eq (PySem.F.newCall_bool_1 _) (wpAny_pure ⟨plainId_quiet (by decide +kernel) _, codeAny_builtin PySem.F.entry_bool_new ?_⟩))
    rw [Around.under_plainId (by decide +kernel) _]
    have f1 := PySem.F.conv_sub_bool
    have tr : ∀ {R : Bool → Shared → Prop}, wpAny (model prog w) A.in1.in1 (call (.ref f) [.ref x]) (fun v s' => ∃ k, v = .bool k ∧ R k s') E s → wpAny (model prog w) A.in1.in1 (truthy (.ref x)) R E s := fun h => truthy_K F X₀ I hs hf (wpAny_mono h (fun v s' hv => by
      obtain ⟨k, rfl, q⟩ := hv
      exact q) fun _ _ z => z)
    unfold Builtin.«bool.__new__»
    repeat (any_goals (first | assumption | (with_reducible refine tr (wpAny_mono h (fun v s' hv => ?_) fun _ _ z => z); obtain ⟨k, rfl, q⟩ := hv; exact ⟨k, rfl, wpAny_pure ⟨k, rfl, q⟩⟩) | wp_step))
  · rintro obj s₁ ⟨y, rfl, hq⟩
    exact ⟨rfl, PySem.F.args_object_init_2 _ _, object_init_meets PySem.F.called_bool.init.lookup PySem.F.called_bool.made (by decide) prog w A.in1 _ s₁ ⟨rfl, rfl, hq⟩⟩
end
end PB
namespace PB
open PySem PySem.Spec PyProof.Rows L2
/-- no own __ne__ -/
structure NeD (K : PySem.W.Frag) (C : Addr) : Prop where
  ne : PySem.W.findIn K (.ref C) "__ne__" = some (some (.builtin "object.__ne__"))
  mro : PySem.W.mroIn K C (.type "object") = some true
def neB (x : Str) (K : PySem.W.Frag) : Bool := He.eqO (PySem.W.findIn K (.ref (He.ga K x)) "__ne__") (some (some (.builtin "object.__ne__"))) && decide (PySem.W.mroIn K (He.ga K x) (.type "object") = some true)
theorem ne_of_b {x : Str} {K : PySem.W.Frag} (h : neB x K = true) : NeD K (He.ga K x) := by
  obtain ⟨a, b⟩ := He.ba h
  exact ⟨He.eqO_ok a, of_decide_eq_true b⟩
section
variable {X : Cx} {CX : CXT} {k : Nat} {ps : List Str} {sp : Sp} {W : WX} {c : Str}
def rNeOwn (C : Addr) (sp : Sp) (W : WX) : L2.St → R2 := fun σ x y H Q => rOwn C sp W σ x y H fun v H' => ∃ b, v = .bl b ∧ Q (.bl (!b)) H'
theorem op_neOwn (O : OkM X.prog X.w X.K X.mg X.base CX k c "__eq__" ps [] sp) (N : OwnN X.K (He.ga X.K c)) (D : NeD X.K (He.ga X.K c)) (hr : Room (k + 1) X.A) (hx : ∀ σ, PassesAt CX X σ (WE W σ)) : OpRS X (compareOp .NotEq) (rNeOwn (He.ga X.K c) sp W) := by
  intro pins s σ H x y v u Q I rx ry h
  obtain ⟨a, dx, fs, rfl, ha, hy, hs⟩ := h
  cases rx
  obtain ⟨od, J⟩ := inst_of I ha
  obtain ⟨m, hF⟩ := I.fr
  have hu : X.A.units + 1 < cLine := by have := hr.un; omega
  rcases hy with ⟨b, dy, gs, rfl, hb⟩ | ⟨j, rfl⟩
  · cases ry
    obtain ⟨od', J'⟩ := inst_of I hb
    refine ne_own (tb := .ref (He.ga X.K c)) hu hF I.ok.mod.kin J J'.type (by simp [PySem.W.notFirst]) D.mro D.ne O.meth.at_ O.meth.fn ?_
    refine wpAny_mono (O.runA (A' := X.A.in1) rfl hr.in1 (hx σ) I (vs := [.ref a, .ref b]) (.cons rfl (.cons rfl .nil)) hs) (fun u s' hu => ?_) fun _ _ z => z
    obtain ⟨v, H', I', r, b, rfl, q⟩ := hu
    cases r
    exact ⟨b, rfl, .bl (!b), H', I', rfl, q⟩
  · obtain ⟨t, rfl⟩ := ry
    refine ne_own (tb := .type "int") hu hF I.ok.mod.kin J (PySem.W.Looks.of_pure rfl) (by simp [PySem.W.notFirst, N.si]) D.mro D.ne O.meth.at_ O.meth.fn ?_
    refine wpAny_mono (O.runA (A' := X.A.in1) rfl hr.in1 (hx σ) I (vs := [.ref a, .int j]) (.cons rfl (.cons ⟨t, rfl⟩ .nil)) hs) (fun u s' hu => ?_) fun _ _ z => z
    obtain ⟨v, H', I', r, b, rfl, q⟩ := hu
    cases r
    exact ⟨b, rfl, .bl (!b), H', I', rfl, q⟩
def rBoolOwn (C : Addr) (sp : Sp) (W : WX) : L2.St → List V → Hp → VK → Prop := fun σ xs H Q => ∃ x, xs = [x] ∧ rOwn1 C sp W σ x H fun v H' => ∃ b, v = .bl b ∧ Q (.bl b) H'
theorem call_boolOwn (O : OkM X.prog X.w X.K X.mg X.base CX k c "__bool__" ps [] sp) (hr : Room (k + 2) X.A) (hx : ∀ σ, PassesAt CX X σ (WE W σ)) : CallRS X (.type "bool") (rBoolOwn (He.ga X.K c) sp W) := by
  intro pins s σ H xs us Q I r h
  obtain ⟨x, rfl, a, dx, fs, rfl, ha, hs⟩ := h
  obtain ⟨u, rfl, rx⟩ := vals1 r
  cases rx
  obtain ⟨od, J⟩ := inst_of I ha
  obtain ⟨m, hF⟩ := I.fr
  refine bool_own hF I.ok.mod.kin J O.meth.at_ O.meth.fn (wpAny_mono (O.runA (A' := X.A.in1.in1) rfl (hr.in1 (k := k + 1)).in1 (hx σ) I (vs := [.ref a]) (.cons rfl .nil) hs) (fun u s' hu => ?_) fun _ _ z => z)
  obtain ⟨v, H', I', r, b, rfl, q⟩ := hu
  cases r
  exact ⟨b, rfl, .bl b, H', I', rfl, q⟩
def rStrOwn (C : Addr) (sp : Sp) (W : WX) : L2.St → List V → Hp → VK → Prop := fun σ xs H Q => ∃ x, xs = [x] ∧ rOwn1 C sp W σ x H fun v H' => ∃ b, v = .str b ∧ Q (.str b) H'
theorem call_strOwn (O : OkM X.prog X.w X.K X.mg X.base CX k c "__str__" ps [] sp) (hr : Room (k + 2) X.A) (hx : ∀ σ, PassesAt CX X σ (WE W σ)) : CallRS X (.type "str") (rStrOwn (He.ga X.K c) sp W) := by
  intro pins s σ H xs us Q I r h
  obtain ⟨x, rfl, a, dx, fs, rfl, ha, hs⟩ := h
  obtain ⟨u, rfl, rx⟩ := vals1 r
  cases rx
  obtain ⟨od, J⟩ := inst_of I ha
  obtain ⟨m, hF⟩ := I.fr
  have hu : X.A.in1.in1.units < cLine := by
    have := ((hr.in1 (k := k + 1)).in1).un
    omega
  refine PySem.W.kso_call hu I.kIn J O.meth.at_ O.meth.fn (wpAny_mono (O.runA (A' := X.A.in1.in1) rfl (hr.in1 (k := k + 1)).in1 (hx σ) I (vs := [.ref a]) (.cons rfl .nil) hs) (fun u s' hu => ?_) fun _ _ z => z)
  obtain ⟨v, H', I', r, b, rfl, q⟩ := hu
  obtain ⟨t, rfl⟩ := r
  exact ⟨.str b, H', I', ⟨t, rfl⟩, q⟩
theorem CallRSor {f : Value} {r r' : L2.St → List V → Hp → VK → Prop} (h : CallRS X f r) (h' : CallRS X f r') : CallRS X f (fun σ xs H Q => r σ xs H Q ∨ r' σ xs H Q) :=
  fun pins s σ H xs us Q I rx q => q.elim (fun q => h pins s σ H xs us Q I rx q) fun q => h' pins s σ H xs us Q I rx q
theorem callS_of {f : Value} {r : List V → Hp → VK → Prop} (h : CallR X f r) : CallRS X f (fun _ => r) := fun pins s σ H xs us Q I rx q => h pins s σ H xs us Q I rx q
end
end PB
namespace PB
open PySem PySem.Spec PyProof.Rows L2
/-! ## texts, dead ends -/
def rStrI : List V → Hp → VK → Prop := fun xs H Q => ∃ i, xs = [.int i] ∧ i.natAbs.log2 < 1920 ∧ Q (.str (toString i)) H
theorem call_strI {X : Cx} : CallR X (.type "str") rStrI := call_str_int
def rBoolI : List V → Hp → VK → Prop := fun xs H Q => (∃ i, xs = [.int i] ∧ Q (.bl (i != 0)) H) ∨ ∃ k, xs = [.bl k] ∧ Q (.bl k) H
theorem call_boolI {X : Cx} : CallR X (.type "bool") rBoolI := call_bool1
theorem op_addS {X : Cx} : OpR X (binaryOp .Add) rAddS := op_add_str
theorem pe_dead {X : Cx} {e : Expr} : PE X e (fun _ _ _ => False) := ⟨fun _ _ _ _ _ _ h => h.elim⟩
def PutS (x : V) (acc : Str) (H : Hp) (G : Str → Hp → Prop) : Prop := ∃ y : Str, x = .str y ∧ (acc ++ y).length ≤ sizeLine ∧ G (acc ++ y) H
def FmtV (x : V) (H : Hp) (Q : VK) : Prop := (∃ y : Str, x = .str y ∧ y.length ≤ sizeLine ∧ Q (.str y) H) ∨ ∃ i : Int, x = .int i ∧ i.natAbs.log2 < 1920 ∧ Q (.str (toString i)) H
def tJoin (ts : List TE) : TE := fun σ H Q => tJs ts Str.empty σ H fun out H1 => Q (.str out) H1
theorem pe_join {X : Cx} {v1 v2 : Expr} {rest : List Expr} {ts : List TE} {pos : Pos} (h : PJ X (v1 :: v2 :: rest) ts) : PE X (.JoinedStr (v1 :: v2 :: rest) pos) (tJoin ts) := pe_joined h
section
variable {σ : L2.St} {H : Hp} {Q : VK} {QS : Str → Hp → Prop} {t te : TE} {ts : List TE} {acc : Str} {i : Int} {x y : Str}
theorem log_lt {n : Nat} (h : n < 2 ^ 1900) : n.log2 < 1920 := Nat.lt_trans (PySem.Flt.log2_lt_of (by decide) h) (by decide)
theorem len_int {i : Int} (h : i.natAbs < 2 ^ 1900) : (Str.ofString (toString i)).length ≤ 1921 := int_text_len_1921 (log_lt h)
theorem i_join (h : tJs ts Str.empty σ H fun out H1 => Q (.str out) H1) : tJoin ts σ H Q := h
theorem i_js (h : t σ H fun x H1 => PutS x acc H1 fun out H2 => tJs ts out σ H2 QS) : tJs (t :: ts) acc σ H QS := h
theorem i_jsE (h : QS acc H) : tJs [] acc σ H QS := h
theorem i_puts (hz : (acc ++ y).length ≤ sizeLine) (h : QS (acc ++ y) H) : PutS (.str y) acc H QS := ⟨y, rfl, hz, h⟩
theorem i_fmt (h : te σ H fun x H1 => FmtV x H1 Q) : tFmt te σ H Q := h
theorem i_fmtI (hz : i.natAbs < 2 ^ 1900) (h : Q (.str (toString i)) H) : FmtV (.int i) H Q := .inr ⟨i, rfl, log_lt hz, h⟩
theorem i_fmtS (hz : y.length ≤ sizeLine) (h : Q (.str y) H) : FmtV (.str y) H Q := .inl ⟨y, rfl, hz, h⟩
theorem i_strI (hz : i.natAbs < 2 ^ 1900) (h : Q (.str (toString i)) H) : rStrI [.int i] H Q := ⟨i, rfl, log_lt hz, h⟩
theorem i_boolI (h : Q (.bl (i != 0)) H) : rBoolI [.int i] H Q := .inl ⟨i, rfl, h⟩
theorem i_addS (hz : x.length + y.length ≤ sizeLine) (h : Q (.str (x ++ y)) H) : rAddS (.str x) (.str y) H Q := ⟨x, y, rfl, rfl, hz, h⟩
end
end PB
local macro_rules | `(tactic| walk_at "pb1") => `(tactic| with_reducible (first | apply PB.i_join | apply PB.i_js | apply PB.i_jsE | apply PB.i_fmt | apply PB.i_boolI))
namespace PB
open PySem PySem.Spec PyProof.Rows L2
/-! ## the head's facts, defs by any path -/
def fnA (K : PySem.W.Frag) (a : Addr) : He.FnW := match K.lookup a with
  | some ⟨_, _, .func fd, _⟩ => some (fd.name, fd.qualname, fd.params, fd.body, fd.scope, fd.globals, fd.closure, fd.builtins)
  | _ => none
/-- one def: where it stands, its name, qualified name, parameters, body, scope, defaults -/
structure DefP where
  at_ : PySem.W.Frag → Addr
  name : Str
  qual : Str
  params : Arguments
  body : List Stmt
  scope : Scope
  dfl : List He.Dv := []
def DefP.val (d : DefP) : He.FnW := some (d.name, d.qual, d.params, .stmts d.body, d.scope, mainGlobals, [], builtinsNs)
def DefP.dvs (K : PySem.W.Frag) (d : DefP) : List V := d.dfl.map (He.Dv.v K)
def DefP.ok (K : PySem.W.Frag) (d : DefP) : Bool := PySem.W.keepIn K (.ref (d.at_ K)) && (match K.lookup (d.at_ K) with
  | some ⟨_, _, .func fd, _⟩ => PySem.W.codeIn K fd.code d.qual && (He.dflB K fd.defaults (d.dvs K) && He.kwdB K fd.kwdefaults [])
  | _ => false)
theorem DefP.funD {K : PySem.W.Frag} {d : DefP} (e : fnA K (d.at_ K) = d.val) (c : d.ok K = true) : ∃ fd, FunD K d.name d.qual d.params d.body d.scope (d.dvs K) [] (d.at_ K) fd := by
  obtain ⟨kp, c2⟩ := He.ba c
  unfold fnA at e
  cases q : K.lookup (d.at_ K) with
  | none =>
    rw [q] at c2
    cases c2
  | some o =>
    obtain ⟨oc, od, dt, osl⟩ := o
    rw [q] at c2 e
    cases dt with
    | func fd =>
      obtain ⟨n1, n2, n3, n4, n5, n6, n7, n8, n9, n10, n11, n12, n13, n14, n15⟩ := fd
      have e2 : (some (n1, n2, n3, n4, n5, n6, n7, n15) : He.FnW) = some (d.name, d.qual, d.params, .stmts d.body, d.scope, mainGlobals, [], builtinsNs) := e
      simp only [Option.some.injEq, Prod.mk.injEq] at e2
      obtain ⟨h1, h2, h3, h4, h5, h6, h7, h8⟩ := e2
      subst h1 h2 h3 h4 h5 h6 h7 h8
      have c3 : (PySem.W.codeIn K n13 d.qual && (He.dflB K n8 (d.dvs K) && He.kwdB K n9 [])) = true := c2
      obtain ⟨k1, k2⟩ := He.ba c3
      obtain ⟨k3, k4⟩ := He.ba k2
      exact ⟨_, ⟨oc, od, n8, n9, n10, n11, n12, n13, n14, osl, rfl, q, k1, He.dflB_ok k3, He.kwdB_ok k4⟩, kp⟩
    | _ => cases c2
abbrev AlQ : Type := Bool × List He.FnW
def obsQ (n : Nat) (fn : List DefP) (bs : List (PySem.W.Frag → Bool)) (g : Addr → Option Obj) : AlQ :=
  let K := He.frG g (He.asD g n)
  ((bs.all fun b => b K) && fn.all fun d => d.ok K, fn.map fun d => fnA K (d.at_ K))
def SaysQ (fn : List DefP) (bs : List (PySem.W.Frag → Bool)) (K : PySem.W.Frag) : Prop := (((bs.all fun b => b K) && fn.all fun d => d.ok K, fn.map fun d => fnA K (d.at_ K)) : AlQ) = (true, fn.map DefP.val)
def hookQ (n : Nat) (fn : List DefP) (bs : List (PySem.W.Frag → Bool)) : PySem.W.Hook where
  α := AlQ
  obs := fun s => obsQ n fn bs s.heap.get?
  val := fun _ => (true, fn.map DefP.val)
  says := fun _ h => ∃ K : PySem.W.Frag, K.In h ∧ SaysQ fn bs K
  of := fun _ _ e => ⟨_, He.frG_in, e⟩
  keeps := fun _ _ _ ⟨K, hK, c⟩ k => ⟨K, PySem.W.Frag.In.keeps hK k, c⟩
theorem obsQ_eq {n : Nat} {fn : List DefP} {bs : List (PySem.W.Frag → Bool)} {g : Addr → Option Obj} {s : Shared} (h : ∀ a, g a = s.heap.get? a) : obsQ n fn bs g = (hookQ n fn bs).obs s := by
  have e : g = s.heap.get? := funext h
  rw [e] <;> rfl
section
variable {fn : List DefP} {bs : List (PySem.W.Frag → Bool)} {K : PySem.W.Frag}
theorem SaysQ.bool (c : SaysQ fn bs K) (i : Nat) {b : PySem.W.Frag → Bool} (h : bs[i]? = some b := by rfl) : b K = true :=
  List.all_eq_true.mp (He.ba (show ((bs.all fun b => b K) && fn.all fun d => d.ok K) = true from congrArg (fun z : AlQ => z.1) c)).1 b (List.mem_of_getElem? h)
theorem SaysQ.def_ (c : SaysQ fn bs K) (i : Nat) {d : DefP} (h : fn[i]? = some d := by rfl) : ∃ fd, FunD K d.name d.qual d.params d.body d.scope (d.dvs K) [] (d.at_ K) fd := by
  have c2 := (He.ba (show ((bs.all fun b => b K) && fn.all fun d => d.ok K) = true from congrArg (fun z : AlQ => z.1) c)).2
  have e : (fn.map fun d => fnA K (d.at_ K)) = fn.map DefP.val := congrArg (fun z : AlQ => z.2) c
  have e2 : (fn.map fun d => fnA K (d.at_ K))[i]? = (fn.map DefP.val)[i]? := by rw [e]
  rw [List.getElem?_map, List.getElem?_map, h] at e2
  exact DefP.funD (Option.some.inj e2) (List.all_eq_true.mp c2 d (List.mem_of_getElem? h))
end
/-! ## properties -/
/-- the getter of the property f of C -/
def pga (K : PySem.W.Frag) (C : Addr) (f : Str) : Addr := match PySem.W.recIn K (He.ma K C f) "property" with
  | some (.ref g :: _) => g
  | _ => 0
def propB (x f : Str) (K : PySem.W.Frag) : Bool := He.eqO (PySem.W.findIn K (.ref (He.ga K x)) f) (some (some (.ref (He.ma K (He.ga K x) f)))) && (He.eqO (PySem.W.specialIn K (.ref (He.ma K (He.ga K x) f)) "__get__") (some (some (.builtin "property.__get__"))) &&
  (decide (PySem.W.takesIn K (.ref (He.ma K (He.ga K x) f)) = some true) && (match PySem.W.recIn K (He.ma K (He.ga K x) f) "property" with
    | some (.ref _ :: _) => true
    | _ => false)))
theorem prop_of {x f : Str} {K : PySem.W.Frag} (h : propB x f K = true) : PropOf K (He.ga K x) f (He.ma K (He.ga K x) f) (pga K (He.ga K x) f) := by
  obtain ⟨h1, h⟩ := He.ba h
  obtain ⟨h2, h⟩ := He.ba h
  obtain ⟨h3, h4⟩ := He.ba h
  refine ⟨He.eqO_ok h1, He.eqO_ok h2, of_decide_eq_true h3, ?_⟩
  unfold pga
  cases e : PySem.W.recIn K (He.ma K (He.ga K x) f) "property" with
  | none => rw [e] at h4; cases h4
  | some l =>
    rw [e] at h4
    cases l with
    | nil => cases h4
    | cons v r =>
      cases v with
      | ref g => exact ⟨r, rfl⟩
      | _ => cases h4
/-- a property's getter: what readers have -/
def OkP (P : Program) (w : World) (K : PySem.W.Frag) (mg : Str → Option Value) (base : Heap) (CX : CXT) (k : Nat) (c f : Str) (ps : List Str) (dvs : List V) (sp : Sp) : Prop :=
  ∃ (fd : FuncData) (ds : List Value), FnOk P w K mg base CX k (pga K (He.ga K c) f) fd ps sp ∧ Cls K (He.ga K c) ∧ PropOf K (He.ga K c) f (He.ma K (He.ga K c) f) (pga K (He.ga K c) f) ∧ Binds K fd ps ds ∧ Vals dvs ds
def GetP (C : Addr) (sp : Sp) (x : V) (H : Hp) (Q : VK) (E : XK) : Prop := ∃ a dx fs, x = .ref a ∧ H a = some (.ins C dx fs) ∧ sp [.ref a] H Q E
def tPropG (C : Addr) (sp : Sp) (ta : TE) : TE := fun σ H Q => ta σ H fun x H1 => GetP C sp x H1 Q (fun _ _ _ => False)
theorem pe_propF {X : Cx} {k : Nat} {c f : Str} {ps : List Str} {sp : Sp} {e : Expr} {ta : TE} {pos : Pos} (O : OkP X.prog X.w X.K X.mg X.base CX0 k c f ps [] sp) (hr : Room (k + 1) X.A) (he : PE X e ta) (hab : attributeBase e f X.env (eval e X.env) = eval e X.env := by rfl) :
    PE X (.Attribute e f pos) (tPropG (He.ga X.K c) sp ta) := by
  obtain ⟨fd, ds, F, hc, hp, hb, hd⟩ := O
  exact pe_prop (E := fun _ _ _ => False) he hc hp F hr hb hd (fun _ _ _ _ _ _ _ h => h) hab
section
variable {σ : L2.St} {H : Hp} {Q : VK} {ta : TE} {C a dx : Addr} {fs : List (Str × V)} {sp : Sp} {E : XK}
theorem i_prop (h : ta σ H fun x H1 => GetP C sp x H1 Q (fun _ _ _ => False)) : tPropG C sp ta σ H Q := h
theorem i_propR (ha : H a = some (.ins C dx fs)) (h : sp [.ref a] H Q E) : GetP C sp (.ref a) H Q E := ⟨a, dx, fs, rfl, ha, h⟩
end
/-! ## dead ends -/
theorem ps_dead {X : Cx} {st : Stmt} : PS X st (fun _ _ _ => False) := ⟨fun _ _ _ _ _ _ h => h.elim⟩
end PB
local macro_rules | `(tactic| walk_at "pb1") => `(tactic| with_reducible (first | apply PB.i_prop))
namespace PB
open PySem PySem.Spec PyProof.Rows L2
/-! ## lists: readings by names -/
def rInsN : V → List V → Hp → VK → Prop := fun x vs H Q => ∃ (l : Addr) (xs : List V) (i : Int) (y : V), x = .ref l ∧ vs = [.int i, y] ∧ H l = some (.lst xs) ∧ xs.length < sizeLine ∧ 0 ≤ i ∧ i < 2 ^ 63 ∧ Q .non (upd H l (.lst (xs.take i.toNat ++ [y] ++ xs.drop i.toNat)))
theorem mt_insN {X : Cx} : MtR X "list.insert" rInsN := mt_insert
def rListN (K : PySem.W.Frag) : List V → Hp → VK → Prop := fun xs H Q => ∃ p ys, xs = [.ref p] ∧ (SqL K H p ys ∨ SqT K H p ys) ∧ ∀ l, H l = none → Q (.ref l) (upd H l (.lst ys))
theorem call_listN {X : Cx} : CallR X (.type "list") (rListN X.K) := call_list_of
def rTupN (K : PySem.W.Frag) : List V → Hp → VK → Prop := fun xs H Q => ∃ p ys, xs = [.ref p] ∧ ((SqL K H p ys ∧ ∀ l, H l = none → Q (.ref l) (upd H l (.tup ys))) ∨ (SqT K H p ys ∧ Q (.ref p) H))
theorem call_tupN {X : Cx} : CallR X (.type "tuple") (rTupN X.K) := call_tuple_of
def DelL (x y : V) (H : Hp) (G : Hp → Prop) : Prop := ∃ (l : Addr) (xs : List V) (i : Int) (k : Nat), x = .ref l ∧ y = .int i ∧ H l = some (.lst xs) ∧ -(2 ^ 63) ≤ i ∧ i < 2 ^ 63 ∧ seqIndex? i xs.length = some k ∧ G (upd H l (.lst (xs.eraseIdx k)))
section
variable {σ : L2.St} {H : Hp} {Q : VK} {K : PySem.W.Frag} {D : Ends} {to ti te : TE} {tl th : TO} {a b l : Addr} {xs ys : List V} {x y v : V} {QO : Option Int → Hp → Prop} {i : Int} {n : Nat}
theorem i_delS (h : to σ H fun x H1 => ti σ H1 fun y H2 => DelL x y H2 (fun H3 => D.nx σ H3)) : tDelL to ti D σ H := h
theorem i_del {G : Hp → Prop} (ho : H l = some (.lst xs)) (hn : n < xs.length) (hz : xs.length ≤ 1000000) (h : ∀ H', Keep [l] H H' → H' l = some (.lst (xs.eraseIdx n)) → G H') : DelL (.ref l) (.int n) H G :=
  ⟨l, xs, n, n, rfl, rfl, ho, by omega, by omega, seqIndex_of (by omega) (by omega), h _ (Keep.set' (by simp) ho (fun z => z)) upd_same⟩
theorem i_ins (ho : H l = some (.lst xs)) (h0 : 0 ≤ i) (h1 : i < 1000000) (hz : xs.length < 1000000) (h : ∀ H', Keep [l] H H' → H' l = some (.lst (xs.take i.toNat ++ [y] ++ xs.drop i.toNat)) → Q .non H') : rInsN (.ref l) [.int i, y] H Q :=
  ⟨l, xs, i, y, rfl, rfl, ho, sz_lt hz, h0, by omega, h _ (Keep.set' (by simp) ho (fun z => z)) upd_same⟩
theorem i_popAt (ho : H l = some (.lst xs)) (hy : xs[n]? = some y) (hz : xs.length ≤ 1000000) (h : ∀ H', Keep [l] H H' → H' l = some (.lst (xs.eraseIdx n)) → Q y H') : rPopAt (.ref l) [.int n] H Q :=
  ⟨l, xs, n, n, y, rfl, rfl, ho, by have := (List.getElem?_eq_some_iff.mp hy).1; omega, by have := (List.getElem?_eq_some_iff.mp hy).1; omega, seqIndex_of (by omega) (by have := (List.getElem?_eq_some_iff.mp hy).1; omega), hy, h _ (Keep.set' (by simp) ho (fun z => z)) upd_same⟩
theorem i_sl {r : V → Option Int → Option Int → Hp → VK → Prop} (h : te σ H fun x H1 => tl σ H1 fun lo H2 => th σ H2 fun hi H3 => r x lo hi H3 Q) : tSl r te tl th σ H Q := h
theorem i_noPart (h : QO none H) : tNoPart σ H QO := h
def PartV (x : V) (H : Hp) (QO : Option Int → Hp → Prop) : Prop := ∃ i, x = .int i ∧ QO (some i) H
theorem i_part (h : te σ H fun x H1 => PartV x H1 QO) : tPart te σ H QO := h
theorem i_partI (h : QO (some i) H) : PartV (.int i) H QO := ⟨i, rfl, h⟩
theorem i_slL {lo hi : Option Int} (hs : SqL K H a xs) (h : ∀ p H', H p = none → Keep [] H H' → H' p = some (.lst (cutV xs lo hi)) → Q (.ref p) H') : rSlL K (.ref a) lo hi H Q := ⟨a, xs, rfl, hs, fun p hp => h p _ hp (Keep.new hp) upd_same⟩
theorem i_cat (ha : H a = some (.lst xs)) (hb : H b = some (.lst ys)) (hz : xs.length + ys.length ≤ 1000000) (h : ∀ p H', H p = none → Keep [] H H' → H' p = some (.lst (xs ++ ys)) → Q (.ref p) H') : rCat (.ref a) (.ref b) H Q :=
  ⟨a, b, xs, ys, rfl, rfl, ha, hb, sz_le hz, fun p hp => h p _ hp (Keep.new hp) upd_same⟩
theorem i_listL (hs : SqL K H a xs) (h : ∀ p H', H p = none → Keep [] H H' → H' p = some (.lst xs) → Q (.ref p) H') : rListN K [.ref a] H Q := ⟨a, xs, rfl, .inl hs, fun p hp => h p _ hp (Keep.new hp) upd_same⟩
theorem i_listT (hs : SqT K H a xs) (h : ∀ p H', H p = none → Keep [] H H' → H' p = some (.lst xs) → Q (.ref p) H') : rListN K [.ref a] H Q := ⟨a, xs, rfl, .inr hs, fun p hp => h p _ hp (Keep.new hp) upd_same⟩
theorem i_tupL (hs : SqL K H a xs) (h : ∀ p H', H p = none → Keep [] H H' → H' p = some (.tup xs) → Q (.ref p) H') : rTupN K [.ref a] H Q := ⟨a, xs, rfl, .inl ⟨hs, fun p hp => h p _ hp (Keep.new hp) upd_same⟩⟩
theorem i_tupT (hs : SqT K H a xs) (h : Q (.ref a) H) : rTupN K [.ref a] H Q := ⟨a, xs, rfl, .inr ⟨hs, h⟩⟩
theorem i_notN (h : Q (.bl (!decide (x = .non))) H) : rNotN x .non H Q := ⟨rfl, h⟩
theorem i_isN (h : Q (.bl (decide (x = .non))) H) : rIsN x .non H Q := ⟨rfl, h⟩
theorem b_intNN {A B : Prop} (h : A) : if (!decide (V.int i = V.non)) = true then A else B := by rw [if_pos (by simp)]; exact h
theorem b_intN {A B : Prop} (h : B) : if decide (V.int i = V.non) = true then A else B := by rw [if_neg (by simp)]; exact h
/-! texts in lists -/
theorem in_str (x : Str) : ∀ ns : List Str, inV (.str x) (ns.map V.str) = decide (x ∈ ns)
  | [] => by simp [inV]
  | n :: ns => by
    have ih := in_str x ns
    unfold inV at ih ⊢
    rw [List.map_cons, List.any_cons, ih]
    by_cases h : n = x
    · subst h
      simp [eqV]
    · have h2 : x ≠ n := fun z => h z.symm
      simp [eqV, h, h2]
theorem flat_strs : ∀ ns : List Str, (ns.map V.str).all flatV = true
  | [] => rfl
  | n :: ns => by rw [List.map_cons, List.all_cons, flat_strs ns]; rfl
theorem i_inS {ns : List Str} {z : Str} (hs : SqL K H a (ns.map V.str)) (h : Q (.bl (decide (z ∈ ns))) H) : rIn K false (.str z) (.ref a) H Q :=
  ⟨a, _, rfl, .inl hs, rfl, flat_strs ns, by rw [if_neg (by simp), in_str]; exact h⟩
theorem i_ninS {ns : List Str} {z : Str} (hs : SqL K H a (ns.map V.str)) (h : Q (.bl (!decide (z ∈ ns))) H) : rIn K true (.str z) (.ref a) H Q :=
  ⟨a, _, rfl, .inl hs, rfl, flat_strs ns, by rw [if_pos rfl, in_str]; exact h⟩
theorem i_indexS {ns : List Str} {z : Str} (hs : SqL K H a (ns.map V.str)) (hz : z ∈ ns) (h : Q (.int (ns.idxOf z : Nat)) H) : rIndex K (.ref a) [.str z] H Q := by
  have hlt : ns.idxOf z < ns.length := List.idxOf_lt_length_iff.mpr hz
  refine ⟨a, _, .str z, ns.idxOf z, .str z, rfl, rfl, hs, rfl, flat_strs ns, ?_, by simp [eqV], fun m z' hm hz' => ?_, h⟩
  · rw [List.getElem?_map, List.getElem?_eq_getElem hlt]
    simp
  · rw [List.getElem?_map] at hz'
    have hm2 : m < ns.length := by omega
    rw [List.getElem?_eq_getElem hm2] at hz'
    cases hz'
    have h3 : ns[m] ≠ z := by
      intro e
      have := List.not_of_lt_findIdx (p := fun y => y == z) (xs := ns) (i := m) hm
      rw [e] at this
      simp at this
    simp [eqV, h3]
end
/-! data of texts -/
theorem dpAll_strs {K : PySem.W.Frag} {H : Hp} : ∀ ns : List Str, DpAll K H (ns.map V.str) (ns.map PyData.str)
  | [] => .nil
  | n :: ns => .cons (.str n) (dpAll_strs ns)
theorem canLay_strs : ∀ ns : List Str, (∀ n ∈ ns, PyData.strOk n = true) → PyData.canLayAll0 (ns.map PyData.str) = true
  | [], _ => by simp [PyData.canLayAll0]
  | n :: ns, h => by simp [PyData.canLayAll0, PyData.canLay0, canLay_strs ns (fun m hm => h m (List.mem_cons_of_mem _ hm)), h n (List.mem_cons_self ..)]
theorem depth_strs : ∀ ns : List Str, PyData.depthAll (ns.map PyData.str) = 0
  | [] => by simp [PyData.depthAll]
  | n :: ns => by simp [PyData.depthAll, PyData.depth, depth_strs ns]
theorem shaped_strs (ns : List Str) (h : ∀ n ∈ ns, PyData.strOk n = true) : SeqAt.shaped (.list (ns.map PyData.str)) = true := by
  simp [SeqAt.shaped, PyData.canLay0, canLay_strs ns h, PyData.depth, depth_strs]
theorem eqv_strs : ∀ ns ms : List Str, PyData.eqvAll (ns.map PyData.str) (ms.map PyData.str) = decide (ns = ms)
  | [], [] => by simp [PyData.eqvAll]
  | [], _ :: _ => by simp [PyData.eqvAll]
  | _ :: _, [] => by simp [PyData.eqvAll]
  | n :: ns, m :: ms => by
    rw [List.map_cons, List.map_cons, PyData.eqvAll, eqv_strs ns ms, PyData.eqv]
    by_cases h : n = m <;> by_cases h' : ns = ms <;> simp [h, h']
theorem i_neS {K : PySem.W.Frag} {H : Hp} {Q : VK} {a b : Addr} {ns ms : List Str} (ha : SqL K H a (ns.map V.str)) (hb : SqL K H b (ms.map V.str)) (ka : ∀ n ∈ ns, PyData.strOk n = true) (kb : ∀ n ∈ ms, PyData.strOk n = true) (h : Q (.bl (!decide (ns = ms))) H) : rNeD K (.ref a) (.ref b) H Q := by
  refine ⟨.list (ns.map PyData.str), .list (ms.map PyData.str), .lst ha (dpAll_strs ns), .lst hb (dpAll_strs ms), shaped_strs ns ka, shaped_strs ms kb, ?_⟩
  rw [PyData.eqv, eqv_strs]
  exact h
theorem i_eqS {K : PySem.W.Frag} {H : Hp} {Q : VK} {a b : Addr} {ns ms : List Str} (ha : SqL K H a (ns.map V.str)) (hb : SqL K H b (ms.map V.str)) (ka : ∀ n ∈ ns, PyData.strOk n = true) (kb : ∀ n ∈ ms, PyData.strOk n = true) (h : Q (.bl (decide (ns = ms))) H) : rEqD K (.ref a) (.ref b) H Q := by
  refine ⟨.list (ns.map PyData.str), .list (ms.map PyData.str), .lst ha (dpAll_strs ns), .lst hb (dpAll_strs ms), shaped_strs ns ka, shaped_strs ms kb, ?_⟩
  rw [PyData.eqv, eqv_strs]
  exact h
/-! cuts by naturals -/
theorem cut_to (xs : List V) (n : Nat) (h : n ≤ xs.length) : cutV xs none (some (n : Int)) = xs.take n := by
  rw [cutV, HT.sIx_none, HT.sIx_nat, List.drop_zero, Nat.sub_zero, Nat.min_eq_left h]
theorem cut_from (xs : List V) (n : Nat) (h : n ≤ xs.length) : cutV xs (some (n : Int)) none = xs.drop n := by
  rw [cutV, HT.sIx_none, HT.sIx_nat, Nat.min_eq_left h]
  rw [List.take_of_length_le]
  rw [List.length_drop]
  exact Nat.le_refl _
theorem cut_mid (xs : List V) (m n : Nat) (h : m ≤ n) (h2 : n ≤ xs.length) : cutV xs (some (m : Int)) (some (n : Int)) = (xs.drop m).take (n - m) := by
  rw [cutV, HT.sIx_nat, HT.sIx_nat, Nat.min_eq_left h2, Nat.min_eq_left (Nat.le_trans h h2)]
end PB
local macro_rules | `(tactic| walk_at "pb1") => `(tactic| with_reducible (first | apply PB.i_delS | apply PB.i_sl | apply PB.i_noPart | apply PB.i_part | apply PB.i_partI | apply PB.i_notN | apply PB.i_isN | apply PB.b_intNN | apply PB.b_intN))
namespace PB
open PySem PySem.Spec PyProof.Rows L2
/-! ## rules whose readings name the written part, with it given: K := K -/
section
variable {X : Cx} {K : PySem.W.Frag} {o e e2 l a : Expr} {es elts : List Expr} {to ta tl : TE} {t : TA} {name f x c m : Str} {apos cpos pos p tpos : Pos} {T id : String} {r : V → List V → Hp → VK → Prop} {tg : Expr} {kk n k : Nat} {CX : CXT} {ps : List Str} {dvs : List V} {sp : Sp} {W : WX}
theorem pe_bmK (pa : PlainAttrs T) (slot : Slot T name id) (hty : typeOf (.builtin id) = pure (.type "method_descriptor")) (hm : MtR X id r) (ho : PE X o to) (ha : PA X (e :: es) t)
    (hbase : attributeBase o name X.env (eval o X.env) = eval o X.env := by rfl)
    (hfew : ((backTo cpos (starEach (e :: es) X.env)).all (fun x => !x.1) && (backToKw cpos (keywordEach [] X.env)).all (fun x => x.1.isSome)
      && decide ((e :: es).length + ([] : List Keyword).length + (if ([] : List Keyword).isEmpty then 0 else 1) < 30)) = true := by rfl)
    (hline : (apos.endLine == cpos.line) = true := by rfl) (hs : starEach (e :: es) X.env = (false, eval e X.env) :: starEach es X.env := by rfl) (hplain : (backTo cpos (starEach es X.env)).any (·.1) = false := by rfl) (hK : X.K = K := by rfl) :
    PE X (.Call (.Attribute o name apos) (e :: es) [] cpos) (tBM K T r to t) := by
  subst hK
  exact pe_bm pa slot hty hm ho ha hbase hfew hline hs hplain
theorem pe_bm0K (pa : PlainAttrs T) (slot : Slot T name id) (hty : typeOf (.builtin id) = pure (.type "method_descriptor")) (hm : MtR X id r) (ho : PE X o to)
    (hbase : attributeBase o name X.env (eval o X.env) = eval o X.env := by rfl) (hline : (apos.endLine == cpos.line) = true := by rfl) (hK : X.K = K := by rfl) : PE X (.Call (.Attribute o name apos) [] [] cpos) (tBM0 K T r to) := by
  subst hK
  exact pe_bm0 pa slot hty hm ho hbase hline
theorem pe_fldK (he : PE X e ta) (hb : attributeBase e f X.env (eval e X.env) = eval e X.env := by rfl) (hK : X.K = K := by rfl) : PE X (.Attribute e f pos) (tFld K ta f) := by
  subst hK
  exact pe_fld he hb
theorem ix_listK (hK : X.K = K := by rfl) : IxR X (rIxL K) := by subst hK; exact ix_list
theorem ix_tupK (hK : X.K = K := by rfl) : IxR X (rIxT K) := by subst hK; exact ix_tup
theorem sl_listK (hK : X.K = K := by rfl) : SlR X (rSlL K) := by subst hK; exact sl_list
theorem op_inK (hK : X.K = K := by rfl) : OpR X (compareOp .In) (rIn K false) := by subst hK; exact op_in_seq
theorem op_ninK (hK : X.K = K := by rfl) : OpR X (compareOp .NotIn) (rIn K true) := by subst hK; exact op_notIn_seq
theorem mt_indexK (hK : X.K = K := by rfl) : MtR X "list.index" (rIndex K) := by subst hK; exact mt_index
theorem call_lenK (hK : X.K = K := by rfl) : CallR X (.builtin "len") (rLen K) := by subst hK; exact call_lenN
theorem call_isiK' (hK : X.K = K := by rfl) : CallR X (.builtin "isinstance") (rIsi K) := by subst hK; exact call_isi
theorem call_isiTK (hK : X.K = K := by rfl) : CallR X (.builtin "isinstance") (rIsiT K) := by subst hK; exact call_isiT
theorem call_listK (hK : X.K = K := by rfl) : CallR X (.type "list") (rListN K) := by subst hK; exact call_listN
theorem call_tupK (hK : X.K = K := by rfl) : CallR X (.type "tuple") (rTupN K) := by subst hK; exact call_tupN
theorem cr_allK (hc : X.calm = true := by rfl) (hK : X.K = K := by rfl) : CallR X (.builtin "all") (rAll K) := by subst hK; exact cr_all hc
theorem cr_anyK (hc : X.calm = true := by rfl) (hK : X.K = K := by rfl) : CallR X (.builtin "any") (rAny K) := by subst hK; exact cr_any hc
theorem pi_listK {tl : TE} (hl : PE X l tl) (hK : X.K = K := by rfl) : PI X tg l (iList K tl) := by subst hK; exact pi_list hl
theorem pi_tupK {tl : TE} (hl : PE X l tl) (hK : X.K = K := by rfl) : PI X tg l (iTup K tl) := by subst hK; exact pi_tup hl
theorem pi_enumK {ta : TA} (hg : Gl X "enumerate") (hm : X.mg "enumerate" = none) (ha : PA X [e] ta) (hs : starEach [e] X.env = [(false, eval e X.env)] := by rfl) (hK : X.K = K := by rfl) :
    PI X (.Tuple elts kk tpos) (.Call (.Name "enumerate" p) [e] [] pos) (iEnum K ta) := by subst hK; exact pi_enum hg hm ha hs
theorem pi_reversedK {ta : TA} (hg : Gl X "reversed") (hm : X.mg "reversed" = none) (ha : PA X [e] ta) (hs : starEach [e] X.env = [(false, eval e X.env)] := by rfl) (hK : X.K = K := by rfl) : PI X tg (.Call (.Name "reversed" p) [e] [] pos) (iRev K ta) := by subst hK; exact pi_reversed hg hm ha hs
theorem pi_zipK {ta : TA} (hg : Gl X "zip") (hm : X.mg "zip" = none) (ha : PA X [e, e2] ta)
    (hs : starEach [e, e2] X.env = (false, eval e X.env) :: starEach [e2] X.env := by rfl) (hpl : (backTo pos (starEach [e2] X.env)).any (·.1) = false := by rfl) (hK : X.K = K := by rfl) :
    PI X (.Tuple elts kk tpos) (.Call (.Name "zip" p) [e, e2] [] pos) (RZ.iZipA K ta) := by subst hK; exact RZ.pi_zipA hg hm ha hs hpl
theorem pg_tupK {t : TGs} (n : Nat) (hc : X.calm = true) (h : PGs X es t)
    (hn : (assignEach es X.env).length = n := by rfl) (hst : (assignEach es X.env).findIdx? (·.1) = none := by rfl) (hK : X.K = K := by rfl) : PG X (.Tuple es kk pos) (gTup K n t) := by subst hK; exact pg_tup hc h hn hst
theorem pe_propK {sp : Sp} (O : OkP X.prog X.w X.K X.mg X.base CX0 k c f ps [] sp) (hr : Room (k + 1) X.A) (he : PE X e ta) (hab : attributeBase e f X.env (eval e X.env) = eval e X.env := by rfl) (hK : X.K = K := by rfl) :
    PE X (.Attribute e f pos) (tPropG (He.ga K c) sp ta) := by subst hK; exact pe_propF O hr he hab
theorem pe_methK {pl : Sem Bool} (O : OkM X.prog X.w X.K X.mg X.base CX k c m ps dvs sp) (hr : Room k X.A) (hx : ∀ σ, PassesAt CX X σ (WE W σ)) (he : PE X o ta) (ha : PA X (e :: es) t)
    (hst : starEach (e :: es) X.env = (false, eval e X.env) :: starEach es X.env := by rfl) (hpl : (backTo pos (starEach es X.env)).any (·.1) = false := by rfl)
    (ht : eval (.Call (.Attribute o m apos) (e :: es) [] pos) X.env = (do
      let ov ← eval o X.env
      standAt apos.atName
      let (f, first) ← holding [ov] (getMethod ov m pl)
      callWith pos f first (backTo pos (starEach (e :: es) X.env)) (backToKw pos (keywordEach [] X.env))) := by rfl) (hK : X.K = K := by rfl) :
    PE X (.Call (.Attribute o m apos) (e :: es) [] pos) (tMethG (He.ga K c) m sp dvs W ta t) := by subst hK; exact pe_methF O hr hx he ha hst hpl ht
theorem pe_meth0K {pl : Sem Bool} (O : OkM X.prog X.w X.K X.mg X.base CX k c m ps dvs sp) (hr : Room k X.A) (hx : ∀ σ, PassesAt CX X σ (WE W σ)) (he : PE X o ta)
    (ht : eval (.Call (.Attribute o m apos) [] [] pos) X.env = (do
      let ov ← eval o X.env
      standAt apos.atName
      let (f, first) ← holding [ov] (getMethod ov m pl)
      callWith pos f first (backTo pos (starEach [] X.env)) (backToKw pos (keywordEach [] X.env))) := by rfl) (hK : X.K = K := by rfl) :
    PE X (.Call (.Attribute o m apos) [] [] pos) (tMethG (He.ga K c) m sp dvs W ta tNil) := by subst hK; exact pe_methF0 O hr hx he ht
theorem pe_makeK (O : OkC X.prog X.w X.K X.mg X.base CX k c ps dvs sp) (hr : Room (k + 1) X.A) (hx : ∀ σ, PassesAt CX X σ (WE W σ)) (ha : PA X (e :: es) t) (hg : Gl X c := by rfl)
    (hdb : (c == ("__debug__" : Str)) = false := by decide) (he : starEach (e :: es) X.env = (false, eval e X.env) :: starEach es X.env := by rfl) (hpl : (backTo pos (starEach es X.env)).any (·.1) = false := by rfl) (hK : X.K = K := by rfl) :
    PE X (.Call (.Name c p) (e :: es) [] pos) (tMakeG (He.ga K c) sp dvs W t) := by subst hK; exact pe_makeF O hr hx ha hg hdb he hpl
theorem pe_make0K (O : OkC X.prog X.w X.K X.mg X.base CX k c ps dvs sp) (hr : Room (k + 1) X.A) (hx : ∀ σ, PassesAt CX X σ (WE W σ)) (hg : Gl X c := by rfl)
    (hdb : (c == ("__debug__" : Str)) = false := by decide) (hK : X.K = K := by rfl) : PE X (.Call (.Name c p) [] [] pos) (tMakeG (He.ga K c) sp dvs W tNil) := by subst hK; exact pe_makeF0 O hr hx hg hdb
theorem op_inOwnK (O : OkM X.prog X.w X.K X.mg X.base CX k c "__contains__" ps [] sp) (hr : Room k X.A) (hx : ∀ σ, PassesAt CX X σ (WE W σ)) (hK : X.K = K := by rfl) : OpRS X (compareOp .In) (rInOwn (He.ga K c) sp W false) := by subst hK; exact op_inOwn O hr hx
end
end PB
namespace Lw
open PySem PySem.Spec PyProof.Rows L2 PB
def topS (i : Nat) : Stmt := PySem.Challenge.pw_pairahead_k52_rivals_lists_and_costs.main.body.getD i (.Pass ⟨0, 0, 0, 0⟩)
def d_Rival_DinitD : PB.DefP := ⟨fun K => (He.ma K (He.ga K "Rival") "__init__"), "__init__", "Rival.__init__", defArgs (inClass (topS 6) 0), defBody (inClass (topS 6) 0), defScope (inClass (topS 6) 0), []⟩
def d_Rival_DcontainsD : PB.DefP := ⟨fun K => (He.ma K (He.ga K "Rival") "__contains__"), "__contains__", "Rival.__contains__", defArgs (inClass (topS 6) 1), defBody (inClass (topS 6) 1), defScope (inClass (topS 6) 1), []⟩
def d_Rival_DlenD : PB.DefP := ⟨fun K => (He.ma K (He.ga K "Rival") "__len__"), "__len__", "Rival.__len__", defArgs (inClass (topS 6) 2), defBody (inClass (topS 6) 2), defScope (inClass (topS 6) 2), []⟩
def d_Rival_order : PB.DefP := ⟨fun K => (PB.pga K (He.ga K "Rival") "order"), "order", "Rival.order", defArgs (inClass (topS 6) 3), defBody (inClass (topS 6) 3), defScope (inClass (topS 6) 3), []⟩
def d_Rival_call : PB.DefP := ⟨fun K => (He.ma K (He.ga K "Rival") "call"), "call", "Rival.call", defArgs (inClass (topS 6) 4), defBody (inClass (topS 6) 4), defScope (inClass (topS 6) 4), [.non]⟩
def d_Rival_exchange : PB.DefP := ⟨fun K => (He.ma K (He.ga K "Rival") "exchange"), "exchange", "Rival.exchange", defArgs (inClass (topS 6) 5), defBody (inClass (topS 6) 5), defScope (inClass (topS 6) 5), []⟩
def d_Rival_put : PB.DefP := ⟨fun K => (He.ma K (He.ga K "Rival") "put"), "put", "Rival.put", defArgs (inClass (topS 6) 6), defBody (inClass (topS 6) 6), defScope (inClass (topS 6) 6), []⟩
def d_Rival_drop : PB.DefP := ⟨fun K => (He.ma K (He.ga K "Rival") "drop"), "drop", "Rival.drop", defArgs (inClass (topS 6) 7), defBody (inClass (topS 6) 7), defScope (inClass (topS 6) 7), []⟩
def d_place_of : PB.DefP := ⟨fun K => (He.ga K "place_of"), "place_of", "place_of", defArgs (topS 7), defBody (topS 7), defScope (topS 7), []⟩
def d_l_draw : PB.DefP := ⟨fun K => (He.ga K "_law_draw"), "_law_draw", "_law_draw", defArgs (topS 9), defBody (topS 9), defScope (topS 9), []⟩
def d_l_start : PB.DefP := ⟨fun K => (He.ga K "_law_start"), "_law_start", "_law_start", defArgs (topS 10), defBody (topS 10), defScope (topS 10), []⟩
def d_l_pick : PB.DefP := ⟨fun K => (He.ga K "_law_pick"), "_law_pick", "_law_pick", defArgs (topS 11), defBody (topS 11), defScope (topS 11), []⟩
def d_l_mixed : PB.DefP := ⟨fun K => (He.ga K "_law_mixed"), "_law_mixed", "_law_mixed", defArgs (topS 12), defBody (topS 12), defScope (topS 12), []⟩
def d_l_same : PB.DefP := ⟨fun K => (He.ga K "_law_same"), "_law_same", "_law_same", defArgs (topS 13), defBody (topS 13), defScope (topS 13), []⟩
def d_l_p_names : PB.DefP := ⟨fun K => (He.ga K "_law_p_names"), "_law_p_names", "_law_p_names", defArgs (topS 14), defBody (topS 14), defScope (topS 14), []⟩
def d_law : PB.DefP := ⟨fun K => (He.ga K "law"), "law", "law", defArgs (topS 15), defBody (topS 15), defScope (topS 15), []⟩
def fn : List PB.DefP := [d_Rival_DinitD, d_Rival_DcontainsD, d_Rival_DlenD, d_Rival_order, d_Rival_call, d_Rival_exchange, d_Rival_put, d_Rival_drop, d_place_of, d_l_draw, d_l_start, d_l_pick, d_l_mixed, d_l_same, d_l_p_names, d_law]
def bs : List (PySem.W.Frag → Bool) := [fun K => He.Fa.ok K (.glo "PairError"), fun K => He.Fa.ok K (.glo "NoCase"), fun K => He.Fa.ok K (.glo "CaseThere"), fun K => He.Fa.ok K (.glo "InvalidMove"), fun K => He.Fa.ok K (.glo "Rival"), fun K => He.Fa.ok K (.glo "place_of"), fun K => He.Fa.ok K (.glo "_law_draw"), fun K => He.Fa.ok K (.glo "_law_start"), fun K => He.Fa.ok K (.glo "_law_pick"), fun K => He.Fa.ok K (.glo "_law_mixed"), fun K => He.Fa.ok K (.glo "_law_same"), fun K => He.Fa.ok K (.glo "_law_p_names"), fun K => He.Fa.ok K (.glo "law"), fun K => He.Fa.ok K (.free "ValueError"), fun K => He.Fa.ok K (.free "all"), fun K => He.Fa.ok K (.free "bool"), fun K => He.Fa.ok K (.free "int"), fun K => He.Fa.ok K (.free "isinstance"), fun K => He.Fa.ok K (.free "len"), fun K => He.Fa.ok K (.free "list"), fun K => He.Fa.ok K (.free "property"), fun K => He.Fa.ok K (.free "range"), fun K => He.Fa.ok K (.free "super"), fun K => He.Fa.ok K (.free "tuple"), fun K => He.Fa.ok K (.free "zip"), fun K => He.Fa.ok K (.cls "Rival"), fun K => He.Fa.ok K (.mkr "Rival"), fun K => He.Fa.ok K (.meth "Rival" "__init__"), fun K => He.Fa.ok K (.meth "Rival" "__contains__"), fun K => He.Fa.ok K (.meth "Rival" "__len__"), PB.propB "Rival" "order", fun K => He.Fa.ok K (.meth "Rival" "call"), fun K => He.Fa.ok K (.meth "Rival" "exchange"), fun K => He.Fa.ok K (.meth "Rival" "put"), fun K => He.Fa.ok K (.meth "Rival" "drop"), fun K => He.Fa.ok K (.noat "Rival" "names"), fun K => He.Fa.ok K (.noat "Rival" "cost"), PB.ownNB "Rival", PB.isiB "Rival"]
structure Tx (K : PySem.W.Frag) (mg : Str → Option Value) : Prop where
  d_Rival_DinitD : ∃ fd, FunD K "__init__" "Rival.__init__" (defArgs (inClass (topS 6) 0)) (defBody (inClass (topS 6) 0)) (defScope (inClass (topS 6) 0)) [] [] (He.ma K (He.ga K "Rival") "__init__") fd
  d_Rival_DcontainsD : ∃ fd, FunD K "__contains__" "Rival.__contains__" (defArgs (inClass (topS 6) 1)) (defBody (inClass (topS 6) 1)) (defScope (inClass (topS 6) 1)) [] [] (He.ma K (He.ga K "Rival") "__contains__") fd
  d_Rival_DlenD : ∃ fd, FunD K "__len__" "Rival.__len__" (defArgs (inClass (topS 6) 2)) (defBody (inClass (topS 6) 2)) (defScope (inClass (topS 6) 2)) [] [] (He.ma K (He.ga K "Rival") "__len__") fd
  d_Rival_order : ∃ fd, FunD K "order" "Rival.order" (defArgs (inClass (topS 6) 3)) (defBody (inClass (topS 6) 3)) (defScope (inClass (topS 6) 3)) [] [] (PB.pga K (He.ga K "Rival") "order") fd
  d_Rival_call : ∃ fd, FunD K "call" "Rival.call" (defArgs (inClass (topS 6) 4)) (defBody (inClass (topS 6) 4)) (defScope (inClass (topS 6) 4)) [V.non] [] (He.ma K (He.ga K "Rival") "call") fd
  d_Rival_exchange : ∃ fd, FunD K "exchange" "Rival.exchange" (defArgs (inClass (topS 6) 5)) (defBody (inClass (topS 6) 5)) (defScope (inClass (topS 6) 5)) [] [] (He.ma K (He.ga K "Rival") "exchange") fd
  d_Rival_put : ∃ fd, FunD K "put" "Rival.put" (defArgs (inClass (topS 6) 6)) (defBody (inClass (topS 6) 6)) (defScope (inClass (topS 6) 6)) [] [] (He.ma K (He.ga K "Rival") "put") fd
  d_Rival_drop : ∃ fd, FunD K "drop" "Rival.drop" (defArgs (inClass (topS 6) 7)) (defBody (inClass (topS 6) 7)) (defScope (inClass (topS 6) 7)) [] [] (He.ma K (He.ga K "Rival") "drop") fd
  d_place_of : ∃ fd, FunD K "place_of" "place_of" (defArgs (topS 7)) (defBody (topS 7)) (defScope (topS 7)) [] [] (He.ga K "place_of") fd
  d_l_draw : ∃ fd, FunD K "_law_draw" "_law_draw" (defArgs (topS 9)) (defBody (topS 9)) (defScope (topS 9)) [] [] (He.ga K "_law_draw") fd
  d_l_start : ∃ fd, FunD K "_law_start" "_law_start" (defArgs (topS 10)) (defBody (topS 10)) (defScope (topS 10)) [] [] (He.ga K "_law_start") fd
  d_l_pick : ∃ fd, FunD K "_law_pick" "_law_pick" (defArgs (topS 11)) (defBody (topS 11)) (defScope (topS 11)) [] [] (He.ga K "_law_pick") fd
  d_l_mixed : ∃ fd, FunD K "_law_mixed" "_law_mixed" (defArgs (topS 12)) (defBody (topS 12)) (defScope (topS 12)) [] [] (He.ga K "_law_mixed") fd
  d_l_same : ∃ fd, FunD K "_law_same" "_law_same" (defArgs (topS 13)) (defBody (topS 13)) (defScope (topS 13)) [] [] (He.ga K "_law_same") fd
  d_l_p_names : ∃ fd, FunD K "_law_p_names" "_law_p_names" (defArgs (topS 14)) (defBody (topS 14)) (defScope (topS 14)) [] [] (He.ga K "_law_p_names") fd
  d_law : ∃ fd, FunD K "law" "law" (defArgs (topS 15)) (defBody (topS 15)) (defScope (topS 15)) [] [] (He.ga K "law") fd
  g_PairError : mg "PairError" = some (.ref (He.ga K "PairError"))
  g_NoCase : mg "NoCase" = some (.ref (He.ga K "NoCase"))
  g_CaseThere : mg "CaseThere" = some (.ref (He.ga K "CaseThere"))
  g_InvalidMove : mg "InvalidMove" = some (.ref (He.ga K "InvalidMove"))
  g_Rival : mg "Rival" = some (.ref (He.ga K "Rival"))
  g_place_of : mg "place_of" = some (.ref (He.ga K "place_of"))
  g_l_draw : mg "_law_draw" = some (.ref (He.ga K "_law_draw"))
  g_l_start : mg "_law_start" = some (.ref (He.ga K "_law_start"))
  g_l_pick : mg "_law_pick" = some (.ref (He.ga K "_law_pick"))
  g_l_mixed : mg "_law_mixed" = some (.ref (He.ga K "_law_mixed"))
  g_l_same : mg "_law_same" = some (.ref (He.ga K "_law_same"))
  g_l_p_names : mg "_law_p_names" = some (.ref (He.ga K "_law_p_names"))
  g_law : mg "law" = some (.ref (He.ga K "law"))
  f_ValueError : mg "ValueError" = none
  f_all : mg "all" = none
  f_bool : mg "bool" = none
  f_int : mg "int" = none
  f_isinstance : mg "isinstance" = none
  f_len : mg "len" = none
  f_list : mg "list" = none
  f_property : mg "property" = none
  f_range : mg "range" = none
  f_super : mg "super" = none
  f_tuple : mg "tuple" = none
  f_zip : mg "zip" = none
  cls_Rival : Cls K (He.ga K "Rival")
  mk_Rival : Mk K (He.ga K "Rival") (He.ma K (He.ga K "Rival") "__init__")
  meth_Rival_DinitD : Meth K (He.ga K "Rival") "__init__" (He.ma K (He.ga K "Rival") "__init__")
  meth_Rival_DcontainsD : Meth K (He.ga K "Rival") "__contains__" (He.ma K (He.ga K "Rival") "__contains__")
  meth_Rival_DlenD : Meth K (He.ga K "Rival") "__len__" (He.ma K (He.ga K "Rival") "__len__")
  prop_Rival_order : PropOf K (He.ga K "Rival") "order" (He.ma K (He.ga K "Rival") "order") (PB.pga K (He.ga K "Rival") "order")
  meth_Rival_call : Meth K (He.ga K "Rival") "call" (He.ma K (He.ga K "Rival") "call")
  meth_Rival_exchange : Meth K (He.ga K "Rival") "exchange" (He.ma K (He.ga K "Rival") "exchange")
  meth_Rival_put : Meth K (He.ga K "Rival") "put" (He.ma K (He.ga K "Rival") "put")
  meth_Rival_drop : Meth K (He.ga K "Rival") "drop" (He.ma K (He.ga K "Rival") "drop")
  noat_Rival_names : NoAttr K (He.ga K "Rival") "names"
  noat_Rival_cost : NoAttr K (He.ga K "Rival") "cost"
  own_Rival : PB.OwnN K (He.ga K "Rival")
  isi_Rival : PB.IsiC K (He.ga K "Rival")
theorem tx_of {K : PySem.W.Frag} {h : Heap} {mg : Str → Option Value} (X : K.In h) (G : h.Ns mainGlobals mg) (c : PB.SaysQ fn bs K) : Tx K mg :=
  { d_Rival_DinitD := c.def_ 0 (d := d_Rival_DinitD) rfl,
    d_Rival_DcontainsD := c.def_ 1 (d := d_Rival_DcontainsD) rfl,
    d_Rival_DlenD := c.def_ 2 (d := d_Rival_DlenD) rfl,
    d_Rival_order := c.def_ 3 (d := d_Rival_order) rfl,
    d_Rival_call := c.def_ 4 (d := d_Rival_call) rfl,
    d_Rival_exchange := c.def_ 5 (d := d_Rival_exchange) rfl,
    d_Rival_put := c.def_ 6 (d := d_Rival_put) rfl,
    d_Rival_drop := c.def_ 7 (d := d_Rival_drop) rfl,
    d_place_of := c.def_ 8 (d := d_place_of) rfl,
    d_l_draw := c.def_ 9 (d := d_l_draw) rfl,
    d_l_start := c.def_ 10 (d := d_l_start) rfl,
    d_l_pick := c.def_ 11 (d := d_l_pick) rfl,
    d_l_mixed := c.def_ 12 (d := d_l_mixed) rfl,
    d_l_same := c.def_ 13 (d := d_l_same) rfl,
    d_l_p_names := c.def_ 14 (d := d_l_p_names) rfl,
    d_law := c.def_ 15 (d := d_law) rfl,
    g_PairError := He.glo_ok X G (c.bool 0 (b := fun K => He.Fa.ok K (.glo "PairError")) rfl),
    g_NoCase := He.glo_ok X G (c.bool 1 (b := fun K => He.Fa.ok K (.glo "NoCase")) rfl),
    g_CaseThere := He.glo_ok X G (c.bool 2 (b := fun K => He.Fa.ok K (.glo "CaseThere")) rfl),
    g_InvalidMove := He.glo_ok X G (c.bool 3 (b := fun K => He.Fa.ok K (.glo "InvalidMove")) rfl),
    g_Rival := He.glo_ok X G (c.bool 4 (b := fun K => He.Fa.ok K (.glo "Rival")) rfl),
    g_place_of := He.glo_ok X G (c.bool 5 (b := fun K => He.Fa.ok K (.glo "place_of")) rfl),
    g_l_draw := He.glo_ok X G (c.bool 6 (b := fun K => He.Fa.ok K (.glo "_law_draw")) rfl),
    g_l_start := He.glo_ok X G (c.bool 7 (b := fun K => He.Fa.ok K (.glo "_law_start")) rfl),
    g_l_pick := He.glo_ok X G (c.bool 8 (b := fun K => He.Fa.ok K (.glo "_law_pick")) rfl),
    g_l_mixed := He.glo_ok X G (c.bool 9 (b := fun K => He.Fa.ok K (.glo "_law_mixed")) rfl),
    g_l_same := He.glo_ok X G (c.bool 10 (b := fun K => He.Fa.ok K (.glo "_law_same")) rfl),
    g_l_p_names := He.glo_ok X G (c.bool 11 (b := fun K => He.Fa.ok K (.glo "_law_p_names")) rfl),
    g_law := He.glo_ok X G (c.bool 12 (b := fun K => He.Fa.ok K (.glo "law")) rfl),
    f_ValueError := He.free_ok X G (c.bool 13 (b := fun K => He.Fa.ok K (.free "ValueError")) rfl),
    f_all := He.free_ok X G (c.bool 14 (b := fun K => He.Fa.ok K (.free "all")) rfl),
    f_bool := He.free_ok X G (c.bool 15 (b := fun K => He.Fa.ok K (.free "bool")) rfl),
    f_int := He.free_ok X G (c.bool 16 (b := fun K => He.Fa.ok K (.free "int")) rfl),
    f_isinstance := He.free_ok X G (c.bool 17 (b := fun K => He.Fa.ok K (.free "isinstance")) rfl),
    f_len := He.free_ok X G (c.bool 18 (b := fun K => He.Fa.ok K (.free "len")) rfl),
    f_list := He.free_ok X G (c.bool 19 (b := fun K => He.Fa.ok K (.free "list")) rfl),
    f_property := He.free_ok X G (c.bool 20 (b := fun K => He.Fa.ok K (.free "property")) rfl),
    f_range := He.free_ok X G (c.bool 21 (b := fun K => He.Fa.ok K (.free "range")) rfl),
    f_super := He.free_ok X G (c.bool 22 (b := fun K => He.Fa.ok K (.free "super")) rfl),
    f_tuple := He.free_ok X G (c.bool 23 (b := fun K => He.Fa.ok K (.free "tuple")) rfl),
    f_zip := He.free_ok X G (c.bool 24 (b := fun K => He.Fa.ok K (.free "zip")) rfl),
    cls_Rival := He.cls_ok (c.bool 25 (b := fun K => He.Fa.ok K (.cls "Rival")) rfl),
    mk_Rival := He.mkr_ok (c.bool 26 (b := fun K => He.Fa.ok K (.mkr "Rival")) rfl),
    meth_Rival_DinitD := He.meth_ok (c.bool 27 (b := fun K => He.Fa.ok K (.meth "Rival" "__init__")) rfl),
    meth_Rival_DcontainsD := He.meth_ok (c.bool 28 (b := fun K => He.Fa.ok K (.meth "Rival" "__contains__")) rfl),
    meth_Rival_DlenD := He.meth_ok (c.bool 29 (b := fun K => He.Fa.ok K (.meth "Rival" "__len__")) rfl),
    prop_Rival_order := PB.prop_of (c.bool 30 (b := PB.propB "Rival" "order") rfl),
    meth_Rival_call := He.meth_ok (c.bool 31 (b := fun K => He.Fa.ok K (.meth "Rival" "call")) rfl),
    meth_Rival_exchange := He.meth_ok (c.bool 32 (b := fun K => He.Fa.ok K (.meth "Rival" "exchange")) rfl),
    meth_Rival_put := He.meth_ok (c.bool 33 (b := fun K => He.Fa.ok K (.meth "Rival" "put")) rfl),
    meth_Rival_drop := He.meth_ok (c.bool 34 (b := fun K => He.Fa.ok K (.meth "Rival" "drop")) rfl),
    noat_Rival_names := He.noat_ok (c.bool 35 (b := fun K => He.Fa.ok K (.noat "Rival" "names")) rfl),
    noat_Rival_cost := He.noat_ok (c.bool 36 (b := fun K => He.Fa.ok K (.noat "Rival" "cost")) rfl),
    own_Rival := PB.ownN_of (c.bool 37 (b := PB.ownNB "Rival") rfl),
    isi_Rival := PB.isi_of (c.bool 38 (b := PB.isiB "Rival") rfl) }
theorem sc_Rival_DinitD : FnScope ["self", "names"] ["self", "names"] (defScope (inClass (topS 6) 0)) := ⟨rfl, rfl, rfl, by decide +kernel, rfl, by decide +kernel, by decide +kernel⟩
theorem sc_Rival_DcontainsD : FnScope ["self", "name"] ["self", "name"] (defScope (inClass (topS 6) 1)) := ⟨rfl, rfl, rfl, by decide +kernel, rfl, by decide +kernel, by decide +kernel⟩
theorem sc_Rival_DlenD : FnScope ["self"] ["self"] (defScope (inClass (topS 6) 2)) := ⟨rfl, rfl, rfl, by decide +kernel, rfl, by decide +kernel, by decide +kernel⟩
theorem sc_Rival_order : FnScope ["self"] ["self"] (defScope (inClass (topS 6) 3)) := ⟨rfl, rfl, rfl, by decide +kernel, rfl, by decide +kernel, by decide +kernel⟩
theorem sc_Rival_call : FnScope ["self", "name", "to", "place"] ["self", "name", "to"] (defScope (inClass (topS 6) 4)) := ⟨rfl, rfl, rfl, by decide +kernel, rfl, by decide +kernel, by decide +kernel⟩
theorem sc_Rival_exchange : FnScope ["self", "at"] ["self", "at"] (defScope (inClass (topS 6) 5)) := ⟨rfl, rfl, rfl, by decide +kernel, rfl, by decide +kernel, by decide +kernel⟩
theorem sc_Rival_put : FnScope ["self", "name", "at"] ["self", "name", "at"] (defScope (inClass (topS 6) 6)) := ⟨rfl, rfl, rfl, by decide +kernel, rfl, by decide +kernel, by decide +kernel⟩
theorem sc_Rival_drop : FnScope ["self", "name"] ["self", "name"] (defScope (inClass (topS 6) 7)) := ⟨rfl, rfl, rfl, by decide +kernel, rfl, by decide +kernel, by decide +kernel⟩
theorem sc_place_of : FnScope ["names", "name"] ["names", "name"] (defScope (topS 7)) := ⟨rfl, rfl, rfl, by decide +kernel, rfl, by decide +kernel, by decide +kernel⟩
theorem sc_l_draw : FnScope ["_law_stream", "_law_many", "_law_digit", "_law_mixed_here"] ["_law_stream", "_law_many"] (defScope (topS 9)) := ⟨rfl, rfl, rfl, by decide +kernel, rfl, by decide +kernel, by decide +kernel⟩
theorem sc_l_start : FnScope ["_law_script"] ["_law_script"] (defScope (topS 10)) := ⟨rfl, rfl, rfl, by decide +kernel, rfl, by decide +kernel, by decide +kernel⟩
theorem sc_l_pick : FnScope ["_law_stream", "_law_some"] ["_law_stream", "_law_some"] (defScope (topS 11)) := ⟨rfl, rfl, rfl, by decide +kernel, rfl, by decide +kernel, by decide +kernel⟩
theorem sc_l_mixed : FnScope ["_law_stream", "_law_some", "_law_left", "_law_k"] ["_law_stream", "_law_some"] (defScope (topS 12)) := ⟨rfl, rfl, rfl, by decide +kernel, rfl, by decide +kernel, by decide +kernel⟩
theorem sc_l_same : FnScope ["_law_found", "_law_due", "_law_one", "_law_other"] ["_law_found", "_law_due"] (defScope (topS 13)) := ⟨rfl, rfl, rfl, by decide +kernel, rfl, by decide +kernel, by decide +kernel⟩
theorem sc_l_p_names : FnScope ["_law_stream", "_law_many", "_law_some"] ["_law_stream", "_law_many"] (defScope (topS 14)) := ⟨rfl, rfl, rfl, by decide +kernel, rfl, by decide +kernel, by decide +kernel⟩
theorem sc_law : FnScope ["_law_script", "_law_stream", "_law_pool", "_law_names", "_law_cost", "_law_given", "_law_rival", "_law_turn", "_law_kind", "_law_name", "_law_at", "_law_found", "_law_one", "_law_place", "_law_to", "_law_ahead"] ["_law_script"] (defScope (topS 15)) := ⟨rfl, rfl, rfl, by decide +kernel, rfl, by decide +kernel, by decide +kernel⟩
end Lw
namespace Lw
open PySem PySem.Spec PyProof.Rows L2 PB
theorem ok_l_draw {P : Program} {w : World} {K : PySem.W.Frag} {mg : Str → Option Value} {base : Heap} (T : Tx K mg) : OkF P w K mg base CX0 1 "_law_draw" ["_law_stream", "_law_many"] [] (spDraw) := by
  obtain ⟨fd, F⟩ := T.d_l_draw
  refine ⟨fd, [], F.ok sc_l_draw (fun vs H Q E h => ?len) (fun cdv A outer s H vs Q E hr h => ?body), T.g_l_draw, F.kp, F.bindsN fun _ _ _ _ _ _ us hl => match us, hl with | [_, _], _ => rfl, .nil⟩
  case len =>
    obtain ⟨S, l, n, many, rfl, _⟩ := h
    rfl
  case body =>
    obtain ⟨S, l, n, many, rfl, hm0, hmb, hn, ⟨hne, rest, c, m, q0, hq, hS, hl, hlen, hm1, hm2⟩, q⟩ := h
    have hne' : l ≠ S := Ne.symm hne
    refine ⟨_, PSs.nox (pss_cons (ps_asg (pe_op op_add (pe_ix (PB.ix_listK (K := K)) (pv 0) pe_int (fun _ _ => rfl)) pe_int) (pg_sub (pv 0) pe_int set_list))
      (C8.pss_cut (ps_if (PW.pt (pw_and (pt_cmpR op_eq (pe_ix (PB.ix_listK (K := K)) (pv 0) pe_int (fun _ _ => rfl)) pe_int (nomark _)) (pw_and1 (pt_cmpR (op_neD (hr64 hr)) (pe_ix (PB.ix_listK (K := K)) (pv 0) pe_int (fun _ _ => rfl)) (pe_lst pa_nil) (nomark _))))) (pss_cons (ps_asg (PB.pe_bmK (K := K) PySem.F.plainAttrs_list PySem.F.slot_list_pop PySem.F.type_list_pop mt_popAt (pe_ix (PB.ix_listK (K := K)) (pv 0) pe_int (fun _ _ => rfl)) (pa_cons pe_int pa_nil)) (pg_sub (pv 0) pe_int set_list))
      (pss_one (ps_if (pt_cmpR op_lt (pe_ix (PB.ix_listK (K := K)) (pv 0) pe_int (fun _ _ => rfl)) (pe_op op_pow pe_int pe_int) (nomark _)) (pss_cons (ps_asg (pe_op op_mod (pe_callTy call_int1 (by rfl) T.f_int (by decide +kernel) (pa_cons (pe_op op_add (pe_op op_add (pe_op op_mulW (pe_ix (PB.ix_listK (K := K)) (pv 0) pe_int (fun _ _ => rfl)) pe_int) (pe_ix (PB.ix_listK (K := K)) (pv 0) pe_int (fun _ _ => rfl))) pe_int) pa_nil)) pe_int) (pg_sub (pv 0) pe_int set_list))
      (pss_one (ps_asg pe_int (pg_sub (pv 0) pe_int set_list)))) pss_nil))) pss_nil)
      (pss_cons (ps_if (pt_cmpR op_gt (pe_ix (PB.ix_listK (K := K)) (pv 0) pe_int (fun _ _ => rfl)) pe_int (nomark _)) (pss_cons (ps_set (i := 2) sc_l_draw.nd rfl (Or.inl rfl) (pe_op op_mod (pe_callTy call_int1 (by rfl) T.f_int (by decide +kernel) (pa_cons (pe_ix (PB.ix_listK (K := K)) (pv 0) pe_int (fun _ _ => rfl)) pa_nil)) (pv 1)))
      (pss_cons (ps_asg (pe_op PB.op_fdivG (pe_ix (PB.ix_listK (K := K)) (pv 0) pe_int (fun _ _ => rfl)) (pv 1)) (pg_sub (pv 0) pe_int set_list))
      (pss_one (ps_ret (pv 2))))) pss_nil)
      (pss_cons (ps_set (i := 3) sc_l_draw.nd rfl (Or.inl rfl) (pe_op op_mod (pe_op op_pow (pe_op op_add (pe_op op_add (pe_ix (PB.ix_listK (K := K)) (pv 0) pe_int (fun _ _ => rfl)) (pe_op op_mulW pe_int (pe_ix (PB.ix_listK (K := K)) (pv 0) pe_int (fun _ _ => rfl)))) pe_int) pe_int) pe_int))
      (pss_one (ps_ret (pe_op op_mod (pe_op op_mod (pe_op op_pow (pe_op op_add (pe_op op_add (pe_op op_mulW (pv 3) pe_int) (pe_op op_mulW (pe_op op_mulW pe_int (pe_ix (PB.ix_listK (K := K)) (pv 0) pe_int (fun _ _ => rfl))) (pe_ix (PB.ix_listK (K := K)) (pv 0) pe_int (fun _ _ => rfl)))) pe_int) pe_int) pe_int) (pv 1)))))))), ?_⟩
    try dsimp only [cxOf, Cx.nox, Cx.wish]
    rw [show ∀ z0 z1 : V, L2.start ["_law_stream", "_law_many", "_law_digit", "_law_mixed_here"] [z0, z1] = [some z0, some z1, none, none] from fun _ _ => rfl]
    walk_at "pb"
    refine i_ixL (SqL.of hS) rfl ?_
    walk_at "pb"
    refine i_setL hS rfl fun H1 k1 hS => ?_
    replace hl := k1.at_ _ _ (by simpa using hne') hl
    replace k1 : Keep [S, l] H H1 := k1.mono (by simp)
    replace hS : H1 S = some (.lst [.ref l, .int c, .int ((q0 + 1 : Nat) : Int), .int m]) := hS
    refine i_cut (fun σ' H' => σ' = [some (.ref S), some (.int many), none, none] ∧ Keep [S, l] H H' ∧ ∃ (rest : List Int) (c m : Int), H' S = some (.lst [.ref l, .int c, .int ((q0 + 1 : Nat) : Int), .int m]) ∧ H' l = some (.lst (rest.map V.int)) ∧ rest.length ≤ 63 ∧ 0 ≤ m ∧ m < 2147483647) ?_ ?_
    · walk_at "pb"
      refine i_ixL (SqL.of hS) rfl ?_
      walk_at "pb"
      refine b_eqI (fun hc => ?_) (fun hc => ?_)
      · subst hc
        walk_at "pb"
        refine i_ixL (SqL.of hS) rfl ?_
        walk_at "pb"
        refine i_lstR (by walk_at "sz") fun p H2 hp k2 hp2 => ?_
        replace hl := k2.at_ _ _ (by simp) hl
        replace hS := k2.at_ _ _ (by simp) hS
        replace k2 : Keep [S, l] H H2 := k1.trans k2.same
        refine i_neNil hl hp2 ?_
        walk_at "pb"
        refine b_nbool (fun he => ?_) (fun he => ?_)
        · obtain ⟨x, rest, rfl⟩ : ∃ x r, rest = x :: r := by
            cases rest with
            | nil => simp at he
            | cons x r => exact ⟨x, r, rfl⟩
          walk_at "pb"
          refine i_ixL (SqL.of hS) rfl ?_
          refine i_tyL (SqL.of hl) ?_
          walk_at "pb"
          refine i_pop0 hl fun H3 k3 hl => ?_
          replace hS := k3.at_ S _ (by simpa using hne) hS
          replace k3 : Keep [S, l] H H3 := k2.trans (k3.mono (by simp))
          walk_at "pb"
          refine i_setL hS rfl fun H4 k4 hS => ?_
          replace hl := k4.at_ _ _ (by simpa using hne') hl
          replace k4 : Keep [S, l] H H4 := k3.trans (k4.mono (by simp))
          replace hS : H4 S = some (.lst [.ref l, .int x, .int ((q0 + 1 : Nat) : Int), .int m]) := hS
          have hlen' : rest.length ≤ 63 := by rw [List.length_cons] at hlen; omega
          walk_at "pb"
          refine i_ixL (SqL.of hS) rfl ?_
          walk_at "pb"
          refine i_rI ⟨by decide, by decide, by decide⟩ ?_
          walk_at "pb"
          refine b_dec (fun hx => ?_) (fun hx => ?_)
          · walk_at "pb"
            refine i_ixL (SqL.of hS) rfl ?_
            walk_at "pb"
            refine i_rI (mulW_small (by rw [p64]; omega) (by decide)) ?_
            walk_at "pb"
            refine i_ixL (SqL.of hS) rfl ?_
            walk_at "pb"
            refine i_rI (by decide) ?_
            walk_at "pb"
            refine i_setL hS rfl fun H5 k5 hS => ?_
            replace hl := k5.at_ _ _ (by simpa using hne') hl
            replace k5 : Keep [S, l] H H5 := k4.trans (k5.mono (by simp))
            walk_at "pb"
            refine i_setL hS rfl fun H6 k6 hS => ?_
            replace hl := k6.at_ _ _ (by simpa using hne') hl
            replace k6 : Keep [S, l] H H6 := k5.trans (k6.mono (by simp))
            exact ⟨rfl, k6, rest, 0, _, hS, hl, hlen', Int.emod_nonneg _ (by decide), Int.emod_lt_of_pos _ (by decide)⟩
          · walk_at "pb"
            exact ⟨rfl, k4, rest, x, m, hS, hl, hlen', hm1, hm2⟩
        · walk_at "pb"
          exact ⟨rfl, k2, rest, _, m, hS, hl, hlen, hm1, hm2⟩
      · walk_at "pb"
        exact ⟨rfl, k1, rest, _, m, hS, hl, hlen, hm1, hm2⟩
    · rintro σ' H' ⟨rfl, k, rest, c, m, hS, hl, hlen, hm1, hm2⟩
      walk_at "pb"
      refine i_ixL (SqL.of hS) rfl ?_
      walk_at "pb"
      refine b_dec (fun hc => ?_) (fun hc => ?_)
      · walk_at "pb"
        refine i_ixL (SqL.of hS) rfl ?_
        walk_at "pb"
        refine i_rI hm0 ?_
        walk_at "pb"
        refine i_ixL (SqL.of hS) rfl ?_
        walk_at "pb"
        refine i_rI ⟨by omega, hmb⟩ ?_
        walk_at "pb"
        refine i_setL hS rfl fun H1 k1 hS => ?_
        replace hl := k1.at_ _ _ (by simpa using hne') hl
        replace k1 : Keep [S, l] H H1 := k.trans (k1.mono (by simp))
        walk_at "pb"
        exact q _ _ k1 ⟨hne, rest, _, m, q0 + 1, by omega, hS, hl, hlen, hm1, hm2⟩ (Int.emod_nonneg _ (by omega)) (Int.emod_lt_of_pos _ hm0)
      · walk_at "pb"
        refine i_ixL (SqL.of hS) rfl ?_
        walk_at "pb"
        refine i_ixL (SqL.of hS) rfl ?_
        refine i_rI (mulW_small (by decide) (by rw [p64]; omega)) ?_
        walk_at "pb"
        refine i_rI ⟨by decide, by decide, by rw [p64]; omega⟩ ?_
        walk_at "pb"
        refine i_rI (by decide) ?_
        generalize hg : (m + 104729 * ((q0 + 1 : Nat) : Int) + 17) ^ (Int.toNat 5) % 2147483629 = g
        have hg1 : 0 ≤ g := by rw [← hg]; exact Int.emod_nonneg _ (by decide)
        have hg2 : g < 2147483629 := by rw [← hg]; exact Int.emod_lt_of_pos _ (by decide)
        walk_at "pb"
        refine i_rI (mulW_small (by rw [p64]; omega) (by decide)) ?_
        walk_at "pb"
        refine i_ixL (SqL.of hS) rfl ?_
        refine i_rI (mulW_small (by decide) (by rw [p64]; omega)) ?_
        walk_at "pb"
        refine i_ixL (SqL.of hS) rfl ?_
        refine i_rI (mulW_small (by rw [p64]; omega) (by rw [p64]; omega)) ?_
        walk_at "pb"
        have hb : (40503 * ((q0 + 1 : Nat) : Int)) * ((q0 + 1 : Nat) : Int) ≤ 40503 * 10000001 * 10000001 := Int.mul_le_mul (by omega) (by omega) (by omega) (by omega)
        have hb0 : 0 ≤ (40503 * ((q0 + 1 : Nat) : Int)) * ((q0 + 1 : Nat) : Int) := Int.mul_nonneg (by omega) (by omega)
        generalize (40503 * ((q0 + 1 : Nat) : Int)) * ((q0 + 1 : Nat) : Int) = b at hb hb0
        refine i_rI ⟨by decide, by decide, by rw [p64]; omega⟩ ?_
        walk_at "pb"
        refine i_rI (by decide) ?_
        walk_at "pb"
        refine i_rI hm0 ?_
        exact q _ _ k ⟨hne, rest, c, m, q0 + 1, by omega, hS, hl, hlen, hm1, hm2⟩ (Int.emod_nonneg _ (by omega)) (Int.emod_lt_of_pos _ hm0)
def spStart (K : PySem.W.Frag) : Sp := fun vs H Q _ => ∃ (a : Addr) (ns : List Int), vs = [.ref a] ∧ SqL K H a (ns.map V.int) ∧ ns.length ≤ 63 ∧ ∀ S l H', H S = none → H l = none → Keep [] H H' → Stm S l 0 H' → Q (.ref S) H'
theorem ok_l_start {P : Program} {w : World} {K : PySem.W.Frag} {mg : Str → Option Value} {base : Heap} (T : Tx K mg) : OkF P w K mg base CX0 1 "_law_start" ["_law_script"] [] ((spStart K)) := by
  obtain ⟨fd, F⟩ := T.d_l_start
  refine ⟨fd, [], F.ok sc_l_start (fun vs H Q E h => ?len) (fun cdv A outer s H vs Q E hr h => ?body), T.g_l_start, F.kp, F.bindsN fun _ _ _ _ _ _ us hl => match us, hl with | [_], _ => rfl, .nil⟩
  case len =>
    obtain ⟨a, ns, rfl, _⟩ := h
    rfl
  case body =>
    obtain ⟨a, ns, rfl, hs, hl, q⟩ := h
    refine ⟨_, PSs.nox (pss_one (ps_ret (pe_lst (pa_cons (pe_callTy (PB.call_listK (K := K)) (by rfl) T.f_list (by decide +kernel) (pa_cons (pv 0) pa_nil)) (pa_cons pe_int (pa_cons pe_int (pa_cons pe_int pa_nil))))))), ?_⟩
    try dsimp only [cxOf, Cx.nox, Cx.wish]
    rw [show ∀ z0 : V, L2.start ["_law_script"] [z0] = [some z0] from fun _ => rfl]
    walk_at "pb"
    refine i_listL hs fun l H1 hl0 k1 h1 => ?_
    walk_at "pb"
    refine i_lstR (by walk_at "sz") fun S H2 hS k2 hS2 => ?_
    have hne : S ≠ l := fun e => by subst e; rw [hS] at h1; cases h1
    exact q S l H2 (k1.free (by simp) hS) hl0 (k1.trans k2) ⟨hne, ns, 0, 0, 0, by omega, hS2, k2.at_ _ _ (by simp) h1, hl, by omega, by omega⟩
/-- one of a list, by a draw -/
def spPick (K : PySem.W.Frag) : Sp := fun vs H Q _ => ∃ (S l p : Addr) (n : Nat) (xs : List V), vs = [.ref S, .ref p] ∧ n < 9999999 ∧ Stm S l n H ∧ SqL K H p xs ∧ p ∉ [S, l] ∧ xs ≠ [] ∧ xs.length ≤ 1000000 ∧ ∀ H' x, Keep [S, l] H H' → Stm S l (n + 1) H' → x ∈ xs → Q x H'
theorem small_pow {i : Int} (h0 : 0 ≤ i) (h : i ≤ 2000000) : i.natAbs < 2 ^ 9000 := by
  have : i.natAbs < 2 ^ 64 := by rw [p64]; omega
  exact sz_mono this (by decide)
theorem atI_in {xs : List V} {r : Int} (h0 : 0 ≤ r) (h : r < xs.length) : ∃ x, atI xs r = some x ∧ x ∈ xs := by
  obtain ⟨n, rfl⟩ : ∃ n : Nat, r = n := ⟨r.toNat, by omega⟩
  have hn : n < xs.length := by omega
  refine ⟨xs[n], ?_, List.getElem_mem hn⟩
  exact L2.atI_nat (List.getElem?_eq_getElem hn)
theorem ok_l_pick {P : Program} {w : World} {K : PySem.W.Frag} {mg : Str → Option Value} {base : Heap} (T : Tx K mg) : OkF P w K mg base CX0 2 "_law_pick" ["_law_stream", "_law_some"] [] ((spPick K)) := by
  obtain ⟨fd, F⟩ := T.d_l_pick
  refine ⟨fd, [], F.ok sc_l_pick (fun vs H Q E h => ?len) (fun cdv A outer s H vs Q E hr h => ?body), T.g_l_pick, F.kp, F.bindsN fun _ _ _ _ _ _ us hl => match us, hl with | [_, _], _ => rfl, .nil⟩
  case len =>
    obtain ⟨S, l, p, n, xs, rfl, _⟩ := h
    rfl
  case body =>
    have O_l_draw := ok_l_draw (P := P) (w := w) (base := base) T
    obtain ⟨S, l, p, n, xs, rfl, hn, hS, hp, hne, hx, hz, q⟩ := h
    have hlen : 0 < xs.length := List.length_pos_iff.mpr hx
    refine ⟨_, PSs.nox (pss_one (ps_ret (pe_ix (PB.ix_listK (K := K)) (pv 1) (PB.pe_callF O_l_draw (hr.mono (by decide)) pas0 (pa_cons (pv 0) (pa_cons (pe_callB (PB.call_lenK (K := K)) (by rfl) T.f_len boot_len (pa_cons (pv 1) pa_nil)) pa_nil))) (fun _ _ => rfl)))), ?_⟩
    try dsimp only [cxOf, Cx.nox, Cx.wish]
    rw [show ∀ z0 z1 : V, L2.start ["_law_stream", "_law_some"] [z0, z1] = [some z0, some z1] from fun _ _ => rfl]
    walk_at "pb"
    refine i_lenL hp ?_
    walk_at "pb"
    refine ⟨S, l, n, xs.length, rfl, by omega, small_pow (by omega) (by omega), by omega, hS, fun H1 r k1 hS h0 h1 => ?_⟩
    obtain ⟨x, hat, hm⟩ := atI_in h0 h1
    walk_at "pb"
    exact i_ixL (k1.seqL hne hp) hat (q _ _ k1 hS hm)
/-- a list (or tuple) in a drawn order -/
def spMixed (K : PySem.W.Frag) : Sp := fun vs H Q _ => ∃ (S l p : Addr) (n : Nat) (xs : List V), vs = [.ref S, .ref p] ∧ n < 9990000 ∧ Stm S l n H ∧ (SqL K H p xs ∨ SqT K H p xs) ∧ xs.length ≤ 1000 ∧
  ∀ H' r ys, H r = none → Keep [S, l] H H' → Stm S l (n + xs.length) H' → H' r = some (.lst ys) → ys.Perm xs → Q (.ref r) H'
theorem perm_pop {ys rest : List V} {j : Nat} {x : V} (h : rest[j]? = some x) : ((ys ++ [x]) ++ rest.eraseIdx j).Perm (ys ++ rest) := by
  rw [List.append_assoc]
  refine List.Perm.append_left ys ?_
  obtain ⟨hj, e⟩ := List.getElem?_eq_some_iff.mp h
  subst e
  rw [List.eraseIdx_eq_take_drop_succ]
  refine List.Perm.trans (List.perm_middle (l₁ := rest.take j)).symm ?_
  rw [← List.drop_eq_getElem_cons hj, List.take_append_drop]
theorem ok_l_mixed {P : Program} {w : World} {K : PySem.W.Frag} {mg : Str → Option Value} {base : Heap} (T : Tx K mg) : OkF P w K mg base CX0 2 "_law_mixed" ["_law_stream", "_law_some"] [] ((spMixed K)) := by
  obtain ⟨fd, F⟩ := T.d_l_mixed
  refine ⟨fd, [], F.ok sc_l_mixed (fun vs H Q E h => ?len) (fun cdv A outer s H vs Q E hr h => ?body), T.g_l_mixed, F.kp, F.bindsN fun _ _ _ _ _ _ us hl => match us, hl with | [_, _], _ => rfl, .nil⟩
  case len =>
    obtain ⟨S, l, p, n, xs, rfl, _⟩ := h
    rfl
  case body =>
    have O_l_draw := ok_l_draw (P := P) (w := w) (base := base) T
    obtain ⟨S, l, p, n, xs, rfl, hn, hS, hp, hz, q⟩ := h
    refine ⟨_, PSs.nox (pss_cons (ps_set (i := 2) sc_l_mixed.nd rfl (Or.inr rfl) (pe_callTy (PB.call_listK (K := K)) (by rfl) T.f_list (by decide +kernel) (pa_cons (pv 1) pa_nil)))
      (pss_one (ps_ret (pe_lc (own := [("_law_k", 3)]) (g := gName 3) (by rfl) sc_l_mixed.nd (pi_range1 rfl T.f_range (pa_cons (pe_callB (PB.call_lenK (K := K)) (by rfl) T.f_len boot_len (pa_cons (pv 2) pa_nil)) pa_nil)) (blkOk_by (own := [("_law_k", 3)]) (N := ["_law_stream", "_law_some", "_law_left", "_law_k"]) (sc := defScope (topS 12)) (by decide +kernel)) (fun _ _ _ _ _ => (pg_name (i := 3) sc_l_mixed.nd rfl (Or.inl rfl))) (fun _ _ _ _ _ => pts_nil) (fun _ _ _ _ _ => (PB.pe_bmK (K := K) PySem.F.plainAttrs_list PySem.F.slot_list_pop PySem.F.type_list_pop mt_popAt (pv 2) (pa_cons (PB.pe_callF O_l_draw (hr.mono (by decide)) pas0 (pa_cons (pv 0) (pa_cons (pe_callB (PB.call_lenK (K := K)) (by rfl) T.f_len boot_len (pa_cons (pv 2) pa_nil)) pa_nil))) pa_nil))))))), ?_⟩
    try dsimp only [cxOf, Cx.nox, Cx.wish]
    rw [show ∀ z0 z1 : V, L2.start ["_law_stream", "_law_some", "_law_left", "_law_k"] [z0, z1] = [some z0, some z1, none, none] from fun _ _ => rfl]
    walk_at "pb"
    have cp : ∀ {Q : VK}, (∀ r H', H r = none → Keep [] H H' → H' r = some (.lst xs) → Q (.ref r) H') → rListN K [.ref p] H Q := fun h => hp.elim (fun hp => i_listL hp h) fun hp => i_listT hp h
    refine cp fun lf H1 hlf k1 h1 => ?_
    have hS1 := hS.keep k1 (by simp) (by simp)
    walk_at "pb"
    refine i_lenL (SqL.of h1) ?_
    walk_at "pb"
    refine i_itR1 (by omega) (by omega) ?_
    rw [Int.toNat_natCast]
    refine r_lcR fun D H2 hD k2 hD2 => ?_
    have hDS := (hS1.fresh hD)
    have hlS := (hS.fresh hlf)
    have hDlf : D ≠ lf := fun e => by subst e; rw [hD] at h1; cases h1
    refine ⟨fun i H' => ∃ acc rest : List V, H' D = some (.lst acc) ∧ H' lf = some (.lst rest) ∧ acc.length = i ∧ rest.length + i = xs.length ∧ (acc ++ rest).Perm xs ∧ Keep [S, l] H H' ∧ Stm S l (n + i) H', ⟨[], xs, hD2, k2.at_ _ _ (by simp) h1, rfl, rfl, .refl _, (k1.trans k2).same, hS1.keep k2 (by simp) (by simp)⟩, ?_, ?_⟩
    · rintro i H' hi ⟨acc, rest, hd, hr', ha, hl', hp', k, hS'⟩
      walk_at "pb"
      refine ⟨rfl, ?_⟩
      walk_at "pb"
      refine i_tyL (SqL.of hr') ?_
      walk_at "pb"
      refine i_lenL (SqL.of hr') ?_
      walk_at "pb"
      refine ⟨S, l, n + i, rest.length, rfl, by omega, small_pow (by omega) (by omega), by omega, hS', fun H3 r k3 hS3 h0 h1' => ?_⟩
      obtain ⟨j, rfl⟩ : ∃ j : Nat, r = j := ⟨r.toNat, by omega⟩
      have hj : j < rest.length := by omega
      have hg : rest[j]? = some rest[j] := List.getElem?_eq_getElem hj
      replace hr' := k3.at_ _ _ hlS hr'
      replace hd := k3.at_ _ _ hDS hd
      walk_at "pb"
      refine i_popAt hr' hg (by omega) fun H4 k4 hr4 => ?_
      replace hd := k4.at_ _ _ (by simpa using hDlf) hd
      have hS4 := hS3.keep k4 (fun z => hlS (by simp at z; simp [z])) (fun z => hlS (by simp at z; simp [z]))
      refine i_put hd (by walk_at "sz") fun H5 k5 hd5 => ?_
      refine ⟨acc ++ [rest[j]], rest.eraseIdx j, hd5, k5.at_ _ _ (by simpa using hDlf.symm) hr4, by simp [ha], ?_, (perm_pop hg).trans hp', ?_, hS4.keep k5 (fun z => hDS (by simp at z; simp [z])) (fun z => hDS (by simp at z; simp [z]))⟩
      · rw [List.length_eraseIdx_of_lt hj]
        omega
      · exact ((k.trans k3).fresh1 hlf k4).fresh1 (k1.free (by simp) hD) k5
    · rintro H' ⟨acc, rest, hd, hr', ha, hl', hp', k, hS'⟩
      have : rest = [] := List.length_eq_zero_iff.mp (by omega)
      subst this
      rw [List.append_nil] at hp'
      walk_at "pb"
      exact q _ _ _ (k1.free (by simp) hD) k hS' hd hp'
def pool14 : List Str := ["int", "str", "list", "a", "A", "b b", "~", " ", "0", "10", "9", "a case of twenty ab", "aa", "ab"]
theorem pool14_nodup : pool14.Nodup := by decide +kernel
theorem pool14_ok : ∀ n ∈ pool14, PyData.strOk n = true := by decide +kernel
/-- many of the names, in a drawn order -/
def spNames (K : PySem.W.Frag) : Sp := fun vs H Q _ => ∃ (S l : Addr) (n many : Nat), vs = [.ref S, .int many] ∧ n < 9980000 ∧ many ≤ 14 ∧ Stm S l n H ∧
  ∀ H' r (ns : List Str), H r = none → Keep [S, l] H H' → Stm S l (n + 14) H' → H' r = some (.lst (ns.map V.str)) → ns.Nodup → ns.length = many → (∀ x ∈ ns, PyData.strOk x = true) → Q (.ref r) H'
theorem perm_strs {ys : List V} : ∀ {ns : List Str}, ys.Perm (ns.map V.str) → ∃ ms : List Str, ys = ms.map V.str ∧ ms.Perm ns := by
  have key : ∀ ys : List V, (∀ y ∈ ys, ∃ s, y = V.str s) → ∃ ms : List Str, ys = ms.map V.str := by
    intro ys
    induction ys with
    | nil => exact fun _ => ⟨[], rfl⟩
    | cons y ys ih =>
      intro h
      obtain ⟨s, rfl⟩ := h y (List.mem_cons_self ..)
      obtain ⟨ms, rfl⟩ := ih fun z hz => h z (List.mem_cons_of_mem _ hz)
      exact ⟨s :: ms, rfl⟩
  intro ns h
  obtain ⟨ms, rfl⟩ := key ys fun y hy => by
    obtain ⟨s, _, e⟩ := List.mem_map.mp (h.subset hy)
    exact ⟨s, e.symm⟩
  refine ⟨ms, rfl, ?_⟩
  have e : ∀ l : List Str, (l.map V.str).filterMap (fun v => match v with | .str s => some s | _ => none) = l := by
    intro l
    induction l with
    | nil => rfl
    | cons a l ih => simp [ih]
  have := h.filterMap (fun v => match v with | V.str s => some s | _ => none)
  rw [e, e] at this
  exact this
theorem ok_l_p_names {P : Program} {w : World} {K : PySem.W.Frag} {mg : Str → Option Value} {base : Heap} (T : Tx K mg) : OkF P w K mg base CX0 3 "_law_p_names" ["_law_stream", "_law_many"] [] ((spNames K)) := by
  obtain ⟨fd, F⟩ := T.d_l_p_names
  refine ⟨fd, [], F.ok sc_l_p_names (fun vs H Q E h => ?len) (fun cdv A outer s H vs Q E hr h => ?body), T.g_l_p_names, F.kp, F.bindsN fun _ _ _ _ _ _ us hl => match us, hl with | [_, _], _ => rfl, .nil⟩
  case len =>
    obtain ⟨S, l, n, many, rfl, _⟩ := h
    rfl
  case body =>
    have O_l_mixed := ok_l_mixed (P := P) (w := w) (base := base) T
    obtain ⟨S, l, n, many, rfl, hn, hm, hS, q⟩ := h
    refine ⟨_, PSs.nox (pss_cons (ps_set (i := 2) sc_l_p_names.nd rfl (Or.inl rfl) (pe_lst (pa_cons pe_str (pa_cons pe_str (pa_cons pe_str (pa_cons pe_str (pa_cons pe_str (pa_cons pe_str (pa_cons pe_str (pa_cons pe_str (pa_cons pe_str (pa_cons pe_str (pa_cons pe_str (pa_cons pe_str (pa_cons pe_str (pa_cons pe_str pa_nil))))))))))))))))
      (pss_one (ps_ret (pe_slice (PB.sl_listK (K := K)) (PB.pe_callF O_l_mixed (hr.mono (by decide)) pas0 (pa_cons (pv 0) (pa_cons (pv 2) pa_nil))) po_none (po_some (pv 1)))))), ?_⟩
    try dsimp only [cxOf, Cx.nox, Cx.wish]
    rw [show ∀ z0 z1 : V, L2.start ["_law_stream", "_law_many", "_law_some"] [z0, z1] = [some z0, some z1, none] from fun _ _ => rfl]
    walk_at "pb"
    refine i_lstR (by walk_at "sz") fun p H1 hp k1 hp1 => ?_
    have hS1 := hS.keep k1 (by simp) (by simp)
    walk_at "pb"
    refine ⟨S, l, p, n, pool14.map V.str, rfl, by omega, hS1, .inl (SqL.of hp1), by decide, fun H2 r ys hr k2 hS2 hr2 hperm => ?_⟩
    obtain ⟨ms, rfl, pm⟩ := perm_strs hperm
    have hlen : ms.length = 14 := pm.length_eq
    walk_at "pb"
    refine i_slL (SqL.of hr2) fun r2 H3 hr3 k3 hr4 => ?_
    rw [cut_to _ _ (by rw [List.length_map]; omega), ← List.map_take] at hr4
    refine q H3 r2 (ms.take many) ?_ ((k1.same.trans k2).trans k3.same) (hS2.keep k3 (by simp) (by simp)) hr4 ((pm.nodup_iff.mpr pool14_nodup).sublist (List.take_sublist ..)) (by rw [List.length_take]; omega) fun x hx => pool14_ok x (pm.subset (List.mem_of_mem_take hx))
    have hf := (k2.free (l := r2) ?_ hr3)
    · exact k1.free (by simp) hf
    · exact fun z => by
        obtain ⟨_, _, _, _, _, a, b, _⟩ := hS2.ex
        simp at z
        rcases z with rfl | rfl
        · rw [hr3] at a; cases a
        · rw [hr3] at b; cases b
theorem ok_l_same_step {P : Program} {w : World} {K : PySem.W.Frag} {mg : Str → Option Value} {base : Heap} {j : Nat} {n : Nat} (T : Tx K mg) (O_l_same : OkF P w K mg base CX0 j "_law_same" ["_law_found", "_law_due"] [] (spSameN n)) : OkF P w K mg base CX0 (j + 1) "_law_same" ["_law_found", "_law_due"] [] ((spSame n)) := by
  obtain ⟨fd, F⟩ := T.d_l_same
  refine ⟨fd, [], F.ok sc_l_same (fun vs H Q E h => ?len) (fun cdv A outer s H vs Q E hr h => ?body), T.g_l_same, F.kp, F.bindsN fun _ _ _ _ _ _ us hl => match us, hl with | [_, _], _ => rfl, .nil⟩
  case len =>
    obtain ⟨x, y, rfl, _⟩ := h
    rfl
  case body =>
    obtain ⟨x, y, rfl, hxy, q⟩ := h
    refine ⟨_, PSs.nox (pss_cons (ps_if (pt_val (pe_callB (PB.call_isiTK (K := K)) (by rfl) T.f_isinstance (by decide +kernel) (pa_cons (pv 1) (pa_cons (pe_tup (pa_cons (pe_bltn (v := .ty "list") (by rfl) T.f_list (by decide +kernel) rfl) (pa_cons (pe_bltn (v := .ty "tuple") (by rfl) T.f_tuple (by decide +kernel) rfl) pa_nil))) pa_nil)))) (pss_cons (ps_if (PW.pt (pw_or (pt_cmpR op_ne (pe_callB (PB.call_isiK' (K := K)) (by rfl) T.f_isinstance (by decide +kernel) (pa_cons (pv 0) (pa_cons (pe_bltn (v := .ty "list") (by rfl) T.f_list (by decide +kernel) rfl) pa_nil))) (pe_callB (PB.call_isiK' (K := K)) (by rfl) T.f_isinstance (by decide +kernel) (pa_cons (pv 1) (pa_cons (pe_bltn (v := .ty "list") (by rfl) T.f_list (by decide +kernel) rfl) pa_nil))) (nomark _)) (pw_or1 (pt_cmpR op_ne (pe_callB (PB.call_isiK' (K := K)) (by rfl) T.f_isinstance (by decide +kernel) (pa_cons (pv 0) (pa_cons (pe_bltn (v := .ty "tuple") (by rfl) T.f_tuple (by decide +kernel) rfl) pa_nil))) (pe_callB (PB.call_isiK' (K := K)) (by rfl) T.f_isinstance (by decide +kernel) (pa_cons (pv 1) (pa_cons (pe_bltn (v := .ty "tuple") (by rfl) T.f_tuple (by decide +kernel) rfl) pa_nil))) (nomark _))))) (pss_one (ps_ret pe_bl)) pss_nil)
      (pss_one (ps_ret (pe_and (pe_cmpR op_eq (pe_callB (PB.call_lenK (K := K)) (by rfl) T.f_len boot_len (pa_cons (pv 0) pa_nil)) (pe_callB (PB.call_lenK (K := K)) (by rfl) T.f_len boot_len (pa_cons (pv 1) pa_nil)) (nomark _)) (pe_one (pe_callB (PB.cr_allK (K := K)) (by rfl) T.f_all (by decide +kernel) (pa_cons (pe_lc (own := [("_law_one", 2), ("_law_other", 3)]) (g := (gTup K 2 (gCons (gName 2) (gCons (gName 3) gNil)))) (by rfl) sc_l_same.nd (PB.pi_zipK (K := K) (by rfl) T.f_zip (pa_cons (pv 0) (pa_cons (pv 1) pa_nil))) (blkOk_by (own := [("_law_one", 2), ("_law_other", 3)]) (N := ["_law_found", "_law_due", "_law_one", "_law_other"]) (sc := defScope (topS 13)) (by decide +kernel)) (fun _ _ _ _ _ => (PB.pg_tupK (K := K) 2 rfl (pgs_cons (pg_name (i := 2) sc_l_same.nd rfl (Or.inl rfl)) (pgs_cons (pg_name (i := 3) sc_l_same.nd rfl (Or.inl rfl)) pgs_nil)))) (fun _ _ _ _ _ => pts_nil) (fun _ _ _ _ _ => (PB.pe_callF O_l_same (hr.mono (by omega)) pas0 (pa_cons (pv 2) (pa_cons (pv 3) pa_nil))))) pa_nil))))))) pss_nil)
      (pss_cons (ps_if (pt_val (pe_callB (PB.call_isiK' (K := K)) (by rfl) T.f_isinstance (by decide +kernel) (pa_cons (pv 1) (pa_cons (pe_bltn (v := .ty "int") (by rfl) T.f_int (by decide +kernel) rfl) pa_nil)))) (pss_one (ps_ret (pe_and (pe_callB (PB.call_isiK' (K := K)) (by rfl) T.f_isinstance (by decide +kernel) (pa_cons (pv 0) (pa_cons (pe_bltn (v := .ty "int") (by rfl) T.f_int (by decide +kernel) rfl) pa_nil))) (pe_and (pe_cmpR op_eq (pe_callB (PB.call_isiK' (K := K)) (by rfl) T.f_isinstance (by decide +kernel) (pa_cons (pv 0) (pa_cons (pe_bltn (v := .ty "bool") (by rfl) T.f_bool (by decide +kernel) rfl) pa_nil))) (pe_callB (PB.call_isiK' (K := K)) (by rfl) T.f_isinstance (by decide +kernel) (pa_cons (pv 1) (pa_cons (pe_bltn (v := .ty "bool") (by rfl) T.f_bool (by decide +kernel) rfl) pa_nil))) (nomark _)) (pe_one (pe_cmpR op_eq (pv 0) (pv 1) (nomark _))))))) pss_nil)
      (pss_one (ps_ret (pe_and (pe_cmpR op_eq (pv 0) (pv 1) (nomark _)) (pe_one (pe_cmpR op_isBl (pe_callB (PB.call_isiTK (K := K)) (by rfl) T.f_isinstance (by decide +kernel) (pa_cons (pv 0) (pa_cons (pe_tup (pa_cons (pe_bltn (v := .ty "int") (by rfl) T.f_int (by decide +kernel) rfl) (pa_cons (pe_bltn (v := .ty "list") (by rfl) T.f_list (by decide +kernel) rfl) (pa_cons (pe_bltn (v := .ty "tuple") (by rfl) T.f_tuple (by decide +kernel) rfl) pa_nil)))) pa_nil))) pe_bl (nomark _)))))))), ?_⟩
    try dsimp only [cxOf, Cx.nox, Cx.wish]
    rw [show ∀ z0 z1 : V, L2.start ["_law_found", "_law_due", "_law_one", "_law_other"] [z0, z1] = [some z0, some z1, none, none] from fun _ _ => rfl]
    walk_at "pb"
    refine i_tupR (by walk_at "sz") fun p H1 _ k1 hp => ?_
    replace q : ∀ H', Keep [] H1 H' → Q (.bl true) H' := fun H' k => q H' (k1.trans k)
    replace hxy := hxy.keep k1
    clear k1
    walk_at "pb"
    cases hxy with
    | int i =>
      refine i_isiT (k := false) ["list", "tuple"] hp (.int i) (by decide +kernel) ?_
      walk_at "pb"
      refine i_isi_intT ?_
      walk_at "pb"
      refine i_isi_intT ?_
      walk_at "pb"
      refine i_isi_intF ?_
      walk_at "pb"
      refine i_isi_intF ?_
      walk_at "pb"
      rw [decide_eq_true rfl]
      exact q _ (.refl _)
    | bl i =>
      refine i_isiT (k := false) ["list", "tuple"] hp (.bl i) (by decide +kernel) ?_
      walk_at "pb"
      refine i_isi_blT ?_
      walk_at "pb"
      refine i_isi_blT ?_
      walk_at "pb"
      refine i_isi_blT ?_
      walk_at "pb"
      refine i_isi_blT ?_
      walk_at "pb"
      rw [decide_eq_true rfl]
      exact q _ (.refl _)
    | str i =>
      refine i_isiT (k := false) ["list", "tuple"] hp (.str i) (by decide +kernel) ?_
      walk_at "pb"
      refine i_isi_strF ?_
      walk_at "pb"
      refine i_tupR (by walk_at "sz") fun p H2 _ k2 hp => ?_
      walk_at "pb"
      refine i_isiT (k := false) ["int", "list", "tuple"] hp (.str i) (by decide +kernel) ?_
      walk_at "pb"
      rw [decide_eq_true rfl]
      exact q _ k2
    | non =>
      refine i_isiT (k := false) ["list", "tuple"] hp .non (by decide +kernel) ?_
      walk_at "pb"
      refine i_isi_nonF ?_
      walk_at "pb"
      refine i_tupR (by walk_at "sz") fun p H2 _ k2 hp => ?_
      walk_at "pb"
      refine i_isiT (k := false) ["int", "list", "tuple"] hp .non (by decide +kernel) ?_
      walk_at "pb"
      rw [decide_eq_true rfl]
      exact q _ k2
    | @lst _ a b xs ys ha hb hz hl he =>
      refine i_isiT (k := true) ["list", "tuple"] hp (.lst hb) (by decide +kernel) ?_
      walk_at "pb"
      refine i_isi_lstT ha ?_
      walk_at "pb"
      refine i_isi_lstT hb ?_
      walk_at "pb"
      refine i_isi_lstF ha ?_
      walk_at "pb"
      refine i_isi_lstF hb ?_
      walk_at "pb"
      refine i_lenL (SqL.of ha) ?_
      walk_at "pb"
      refine i_lenL (SqL.of hb) ?_
      rw [hl]
      walk_at "pb"
      refine i_itZL (SqL.of ha) (SqL.of hb) ?_
      refine r_lcZL hl fun Dl H2 hD k2 hD2 => ⟨fun i H' => Keep [] H1 H' ∧ H' Dl = some (.lst ((List.replicate i true).map V.bl)), ⟨k2, hD2⟩, fun i H' h => ⟨SqL.of (h.1.at_ _ _ (by simp) ha), SqL.of (h.1.at_ _ _ (by simp) hb)⟩, ?_, ?_⟩
      · rintro i x y Tp H' H3 hx hy ⟨k, hd⟩ hT k3 hT3
        refine i_gtup (SqT.of hT3) rfl ?_
        have k3' := k.trans k3
        walk_at "pb"
        refine ⟨rfl, ?_⟩
        walk_at "pb"
        refine ⟨x, y, rfl, (he i x y hx hy).keep k3', fun H4 k4 => ?_⟩
        have hi : i < xs.length := (List.getElem?_eq_some_iff.mp hx).1
        have hd4 := k4.at_ _ _ (by simp) (k3.at_ _ _ (by simp) hd)
        refine i_put hd4 (by walk_at "sz") fun H5 k5 h5 => ⟨(k3'.trans k4).fresh1 hD k5, ?_⟩
        rw [h5, List.replicate_succ', List.map_append]
        rfl
      · rintro H' ⟨k, hd⟩
        walk_at "pb"
        refine i_all (SqL.of hd) ?_
        rw [all_rep]
        exact q _ k
    | @tup _ a b xs ys ha hb hz hl he =>
      refine i_isiT (k := true) ["list", "tuple"] hp (.tup hb) (by decide +kernel) ?_
      walk_at "pb"
      refine i_isi_tupF ha ?_
      walk_at "pb"
      refine i_isi_tupF hb ?_
      walk_at "pb"
      refine i_isi_tupT ha ?_
      walk_at "pb"
      refine i_isi_tupT hb ?_
      walk_at "pb"
      refine i_lenT (SqT.of ha) ?_
      walk_at "pb"
      refine i_lenT (SqT.of hb) ?_
      rw [hl]
      walk_at "pb"
      refine i_itZT (SqT.of ha) (SqT.of hb) ?_
      refine r_lcZT hl fun Dl H2 hD k2 hD2 => ⟨fun i H' => Keep [] H1 H' ∧ H' Dl = some (.lst ((List.replicate i true).map V.bl)), ⟨k2, hD2⟩, fun i H' h => ⟨SqT.of (h.1.at_ _ _ (by simp) ha), SqT.of (h.1.at_ _ _ (by simp) hb)⟩, ?_, ?_⟩
      · rintro i x y Tp H' H3 hx hy ⟨k, hd⟩ hT k3 hT3
        refine i_gtup (SqT.of hT3) rfl ?_
        have k3' := k.trans k3
        walk_at "pb"
        refine ⟨rfl, ?_⟩
        walk_at "pb"
        refine ⟨x, y, rfl, (he i x y hx hy).keep k3', fun H4 k4 => ?_⟩
        have hi : i < xs.length := (List.getElem?_eq_some_iff.mp hx).1
        have hd4 := k4.at_ _ _ (by simp) (k3.at_ _ _ (by simp) hd)
        refine i_put hd4 (by walk_at "sz") fun H5 k5 h5 => ⟨(k3'.trans k4).fresh1 hD k5, ?_⟩
        rw [h5, List.replicate_succ', List.map_append]
        rfl
      · rintro H' ⟨k, hd⟩
        walk_at "pb"
        refine i_all (SqL.of hd) ?_
        rw [all_rep]
        exact q _ k
theorem ok_l_sameN {P : Program} {w : World} {K : PySem.W.Frag} {mg : Str → Option Value} {base : Heap} (T : Tx K mg) : ∀ n : Nat, OkF P w K mg base CX0 (n + 1) "_law_same" ["_law_found", "_law_due"] [] (spSameN n)
  | 0 => by
    obtain ⟨fd, F⟩ := T.d_l_same
    refine ⟨fd, [], F.ok (k := 0) sc_l_same (fun vs H Q E h => ?_) (fun cdv A outer s H vs Q E hr h => ?_), T.g_l_same, F.kp, F.bindsN fun _ _ _ _ _ _ us hl => match us, hl with | [_, _], _ => rfl, .nil⟩
    · exact False.elim h
    · exact False.elim h
  | n + 1 => ok_l_same_step T (ok_l_sameN T n)
theorem ok_l_same {P : Program} {w : World} {K : PySem.W.Frag} {mg : Str → Option Value} {base : Heap} (T : Tx K mg) : OkF P w K mg base CX0 7 "_law_same" ["_law_found", "_law_due"] [] (spSame 5) := ok_l_sameN T 6

def spPlaceOf (K : PySem.W.Frag) : Sp := fun vs H Q _ => ∃ (a : Addr) (ns : List Str) (z : Str), vs = [.ref a, .str z] ∧ SqL K H a (ns.map V.str) ∧ z ∈ ns ∧ Q (.int (ns.idxOf z : Nat)) H
theorem er_map (ns : List Str) (i : Nat) : (ns.eraseIdx i).map V.str = (ns.map V.str).eraseIdx i := by
  rw [List.eraseIdx_eq_take_drop_succ, List.eraseIdx_eq_take_drop_succ, List.map_append, List.map_take, List.map_drop]
theorem b_mem {A B : Prop} {z : Str} {ns : List Str} (hz : z ∈ ns) (h : A) : if decide (z ∈ ns) = true then A else B := by rw [if_pos (by simp [hz])]; exact h
theorem b_nmem {A B : Prop} {z : Str} {ns : List Str} (hz : z ∈ ns) (h : B) : if (!decide (z ∈ ns)) = true then A else B := by rw [if_neg (by simp [hz])]; exact h
theorem ok_place_of {P : Program} {w : World} {K : PySem.W.Frag} {mg : Str → Option Value} {base : Heap} (T : Tx K mg) : OkF P w K mg base CX0 1 "place_of" ["names", "name"] [] ((spPlaceOf K)) := by
  obtain ⟨fd, F⟩ := T.d_place_of
  refine ⟨fd, [], F.ok sc_place_of (fun vs H Q E h => ?len) (fun cdv A outer s H vs Q E hr h => ?body), T.g_place_of, F.kp, F.bindsN fun _ _ _ _ _ _ us hl => match us, hl with | [_, _], _ => rfl, .nil⟩
  case len =>
    obtain ⟨a, ns, z, rfl, _⟩ := h
    rfl
  case body =>
    obtain ⟨a, ns, z, rfl, ha, hz, q⟩ := h
    refine ⟨_, PSs.nox (pss_cons (ps_if (pt_cmpR (PB.op_ninK (K := K)) (pv 1) (pv 0) (by rfl)) (pss_one ps_dead) pss_nil)
      (pss_one (ps_ret (PB.pe_bmK (K := K) PySem.F.plainAttrs_list PySem.F.slot_list_index PySem.F.type_list_index (PB.mt_indexK (K := K)) (pv 0) (pa_cons (pv 1) pa_nil))))), ?_⟩
    try dsimp only [cxOf, Cx.nox, Cx.wish]
    rw [show ∀ z0 z1 : V, L2.start ["names", "name"] [z0, z1] = [some z0, some z1] from fun _ _ => rfl]
    walk_at "pb"
    refine i_ninS ha ?_
    walk_at "pb"
    refine b_nmem hz ?_
    walk_at "pb"
    refine i_tyL ha ?_
    walk_at "pb"
    exact i_indexS ha hz q
/-- the rival at x: its list at rn, its cost c -/
structure RvAt (K : PySem.W.Frag) (H : Hp) (x rn : Addr) (ns : List Str) (c : Int) : Prop where
  ob : ∃ dx, H x = some (.ins (He.ga K "Rival") dx [("names", .ref rn), ("cost", .int c)])
  li : H rn = some (.lst (ns.map V.str))
theorem RvAt.ne {K : PySem.W.Frag} {H : Hp} {x rn : Addr} {ns : List Str} {c : Int} (h : RvAt K H x rn ns c) : x ≠ rn := let ⟨_, e⟩ := h.ob; ne_of e h.li fun z => nomatch z
theorem RvAt.keep {K : PySem.W.Frag} {H H' : Hp} {x rn : Addr} {ns : List Str} {c : Int} {ms : List Addr} (h : RvAt K H x rn ns c) (k : Keep ms H H') (h1 : x ∉ ms) (h2 : rn ∉ ms) : RvAt K H' x rn ns c :=
  ⟨let ⟨dx, e⟩ := h.ob; ⟨dx, k.at_ _ _ h1 e⟩, k.at_ _ _ h2 h.li⟩
theorem RvAt.off {K : PySem.W.Frag} {H : Hp} {x rn p : Addr} {ns : List Str} {c : Int} (h : RvAt K H x rn ns c) (hp : H p = none) : p ∉ [x, rn] := by
  obtain ⟨dx, e⟩ := h.ob
  have h1 := ne_of_none e hp
  have h2 := ne_of_none h.li hp
  simpa using ⟨h1.symm, h2.symm⟩
def spRvInit (K : PySem.W.Frag) : Sp := fun vs H Q _ => ∃ (x dx p : Addr) (ns : List Str), vs = [.ref x, .ref p] ∧ H x = some (.ins (He.ga K "Rival") dx []) ∧ (SqL K H p (ns.map V.str) ∨ SqT K H p (ns.map V.str)) ∧
  ∀ H' rn, H rn = none → Keep [x] H H' → RvAt K H' x rn ns 0 → Q .non H'
theorem i_listE {K : PySem.W.Frag} {H : Hp} {Q : VK} {a : Addr} {xs : List V} (hs : SqL K H a xs ∨ SqT K H a xs) (h : ∀ p H', H p = none → Keep [] H H' → H' p = some (.lst xs) → Q (.ref p) H') : rListN K [.ref a] H Q := hs.elim (fun hs => i_listL hs h) fun hs => i_listT hs h
theorem ok_Rival_DinitD {P : Program} {w : World} {K : PySem.W.Frag} {mg : Str → Option Value} {base : Heap} (T : Tx K mg) : OkC P w K mg base CX0 1 "Rival" ["self", "names"] [] ((spRvInit K)) := by
  obtain ⟨fd, F⟩ := T.d_Rival_DinitD
  refine ⟨fd, [], F.ok sc_Rival_DinitD (fun vs H Q E h => ?len) (fun cdv A outer s H vs Q E hr h => ?body), T.g_Rival, T.mk_Rival, F.bindsN fun _ _ _ _ _ _ us hl => match us, hl with | [_, _], _ => rfl, .nil⟩
  case len =>
    obtain ⟨x, dx, p, ns, rfl, _⟩ := h
    rfl
  case body =>
    obtain ⟨x, dx, p, ns, rfl, hx, hp, q⟩ := h
    refine ⟨_, PSs.nox (pss_cons (ps_fld (pv 0) (pe_callTy (PB.call_listK (K := K)) (by rfl) T.f_list (by decide +kernel) (pa_cons (pv 1) pa_nil)) rfl)
      (pss_one (ps_fld (pv 0) pe_int rfl))), ?_⟩
    try dsimp only [cxOf, Cx.nox, Cx.wish]
    rw [show ∀ z0 z1 : V, L2.start ["self", "names"] [z0, z1] = [some z0, some z1] from fun _ _ => rfl]
    walk_at "pb"
    refine i_listE hp fun rn H1 hr k1 hr1 => ?_
    replace hx := k1.at_ _ _ (by simp) hx
    walk_at "pb"
    refine i_sfldR hx T.cls_Rival T.noat_Rival_names (by decide) fun H2 k2 hx2 => ?_
    have hne : rn ≠ x := ne_of hr1 hx (fun z => nomatch z)
    replace hr1 := k2.at_ _ _ (by simpa using hne) hr1
    walk_at "pb"
    refine i_sfldR hx2 T.cls_Rival T.noat_Rival_cost (show 1 < 1000 by decide) fun H3 k3 hx3 => ?_
    replace hr1 := k3.at_ _ _ (by simpa using hne) hr1
    exact q H3 rn hr ((k1.same.trans k2).trans k3) ⟨⟨dx, hx3⟩, hr1⟩
def spRvIn (K : PySem.W.Frag) : Sp := fun vs H Q _ => ∃ (x rn : Addr) (ns : List Str) (c : Int) (z : Str), vs = [.ref x, .str z] ∧ RvAt K H x rn ns c ∧ Q (.bl (decide (z ∈ ns))) H
theorem ok_Rival_DcontainsD {P : Program} {w : World} {K : PySem.W.Frag} {mg : Str → Option Value} {base : Heap} (T : Tx K mg) : OkM P w K mg base CX0 1 "Rival" "__contains__" ["self", "name"] [] ((spRvIn K)) := by
  obtain ⟨fd, F⟩ := T.d_Rival_DcontainsD
  refine ⟨fd, [], F.ok sc_Rival_DcontainsD (fun vs H Q E h => ?len) (fun cdv A outer s H vs Q E hr h => ?body), T.cls_Rival, T.meth_Rival_DcontainsD, F.bindsN fun _ _ _ _ _ _ us hl => match us, hl with | [_, _], _ => rfl, .nil⟩
  case len =>
    obtain ⟨x, rn, ns, c, z, rfl, _⟩ := h
    rfl
  case body =>
    obtain ⟨x, rn, ns, c, z, rfl, ⟨⟨dx, hx⟩, hl⟩, q⟩ := h
    refine ⟨_, PSs.nox (pss_one (ps_ret (pe_cmpR (PB.op_inK (K := K)) (pv 1) (PB.pe_fldK (K := K) (pv 0)) (by rfl)))), ?_⟩
    try dsimp only [cxOf, Cx.nox, Cx.wish]
    rw [show ∀ z0 z1 : V, L2.start ["self", "name"] [z0, z1] = [some z0, some z1] from fun _ _ => rfl]
    walk_at "pb"
    refine i_fldR hx T.cls_Rival T.noat_Rival_names rfl ?_
    exact i_inS (SqL.of hl) q
def spRvLen (K : PySem.W.Frag) : Sp := fun vs H Q _ => ∃ (x rn : Addr) (ns : List Str) (c : Int), vs = [.ref x] ∧ RvAt K H x rn ns c ∧ Q (.int (ns.length : Nat)) H
theorem ok_Rival_DlenD {P : Program} {w : World} {K : PySem.W.Frag} {mg : Str → Option Value} {base : Heap} (T : Tx K mg) : OkM P w K mg base CX0 1 "Rival" "__len__" ["self"] [] ((spRvLen K)) := by
  obtain ⟨fd, F⟩ := T.d_Rival_DlenD
  refine ⟨fd, [], F.ok sc_Rival_DlenD (fun vs H Q E h => ?len) (fun cdv A outer s H vs Q E hr h => ?body), T.cls_Rival, T.meth_Rival_DlenD, F.bindsN fun _ _ _ _ _ _ us hl => match us, hl with | [_], _ => rfl, .nil⟩
  case len =>
    obtain ⟨x, rn, ns, c, rfl, _⟩ := h
    rfl
  case body =>
    obtain ⟨x, rn, ns, c, rfl, ⟨⟨dx, hx⟩, hl⟩, q⟩ := h
    refine ⟨_, PSs.nox (pss_one (ps_ret (pe_callB (PB.call_lenK (K := K)) (by rfl) T.f_len boot_len (pa_cons (PB.pe_fldK (K := K) (pv 0)) pa_nil)))), ?_⟩
    try dsimp only [cxOf, Cx.nox, Cx.wish]
    rw [show ∀ z0 : V, L2.start ["self"] [z0] = [some z0] from fun _ => rfl]
    walk_at "pb"
    refine i_fldR hx T.cls_Rival T.noat_Rival_names rfl ?_
    walk_at "pb"
    refine i_lenL (SqL.of hl) ?_
    rw [List.length_map]
    exact q
def spRvOrd (K : PySem.W.Frag) : Sp := fun vs H Q _ => ∃ (x rn : Addr) (ns : List Str) (c : Int), vs = [.ref x] ∧ RvAt K H x rn ns c ∧ ∀ p H', H p = none → Keep [] H H' → H' p = some (.lst (ns.map V.str)) → Q (.ref p) H'
theorem ok_Rival_order {P : Program} {w : World} {K : PySem.W.Frag} {mg : Str → Option Value} {base : Heap} (T : Tx K mg) : OkP P w K mg base CX0 1 "Rival" "order" ["self"] [] ((spRvOrd K)) := by
  obtain ⟨fd, F⟩ := T.d_Rival_order
  refine ⟨fd, [], F.ok sc_Rival_order (fun vs H Q E h => ?len) (fun cdv A outer s H vs Q E hr h => ?body), T.cls_Rival, T.prop_Rival_order, F.bindsN fun _ _ _ _ _ _ us hl => match us, hl with | [_], _ => rfl, .nil⟩
  case len =>
    obtain ⟨x, rn, ns, c, rfl, _⟩ := h
    rfl
  case body =>
    obtain ⟨x, rn, ns, c, rfl, ⟨⟨dx, hx⟩, hl⟩, q⟩ := h
    refine ⟨_, PSs.nox (pss_one (ps_ret (pe_callTy (PB.call_listK (K := K)) (by rfl) T.f_list (by decide +kernel) (pa_cons (PB.pe_fldK (K := K) (pv 0)) pa_nil)))), ?_⟩
    try dsimp only [cxOf, Cx.nox, Cx.wish]
    rw [show ∀ z0 : V, L2.start ["self"] [z0] = [some z0] from fun _ => rfl]
    walk_at "pb"
    refine i_fldR hx T.cls_Rival T.noat_Rival_names rfl ?_
    walk_at "pb"
    exact i_listL (SqL.of hl) q
/-- z taken out and put in at t -/
def movS (ns : List Str) (z : Str) (t : Nat) : List Str := (ns.eraseIdx (ns.idxOf z)).take t ++ [z] ++ (ns.eraseIdx (ns.idxOf z)).drop t
def spRvCall (K : PySem.W.Frag) : Sp := fun vs H Q _ => ∃ (x rn : Addr) (ns ns' : List Str) (c : Int) (z : Str) (to : V), vs = [.ref x, .str z, to] ∧ RvAt K H x rn ns c ∧ z ∈ ns ∧ ns.length ≤ 1000 ∧ ((to = .non ∧ ns' = ns) ∨ ∃ t : Nat, to = .int t ∧ t ≤ ns.idxOf z ∧ ns' = movS ns z t) ∧
  ∀ H', Keep [x, rn] H H' → RvAt K H' x rn ns' (c + (ns.idxOf z : Nat)) → Q .non H'
theorem ok_Rival_call {P : Program} {w : World} {K : PySem.W.Frag} {mg : Str → Option Value} {base : Heap} (T : Tx K mg) : ∃ fd, FnOk P w K mg base CX0 2 (He.ma K (He.ga K "Rival") "call") fd ["self", "name", "to"] ((spRvCall K)) ∧ FunD K "call" "Rival.call" (defArgs (inClass (topS 6) 4)) (defBody (inClass (topS 6) 4)) (defScope (inClass (topS 6) 4)) [V.non] [] (He.ma K (He.ga K "Rival") "call") fd := by
  obtain ⟨fd, F⟩ := T.d_Rival_call
  refine ⟨fd, F.ok sc_Rival_call (fun vs H Q E h => ?len) (fun cdv A outer s H vs Q E hr h => ?body), F⟩
  case len =>
    obtain ⟨x, rn, ns, ns', c, z, to, rfl, _⟩ := h
    rfl
  case body =>
    have O_place_of := ok_place_of (P := P) (w := w) (base := base) T
    obtain ⟨x, rn, ns, ns', c, z, to, rfl, R, hz, hlen, hto, q⟩ := h
    have hlt : ns.idxOf z < ns.length := List.idxOf_lt_length_iff.mpr hz
    have hne := R.ne
    obtain ⟨⟨dx, hx⟩, hl⟩ := R
    refine ⟨_, PSs.nox (pss_cons (ps_set (i := 3) sc_Rival_call.nd rfl (Or.inl rfl) (PB.pe_callF O_place_of (hr.mono (by decide)) pas0 (pa_cons (PB.pe_fldK (K := K) (pv 0)) (pa_cons (pv 1) pa_nil))))
      (C8.pss_cut (ps_if (PW.pt (pw_and (pt_cmpR op_notN1 (pv 2) pe_non (nomark _)) (pw_and1 (PW.pt (pw_or (pt_cmpR op_lt (pv 2) pe_int (nomark _)) (pw_or1 (pt_cmpR op_gt (pv 2) (pv 3) (nomark _)))))))) (pss_one ps_dead) pss_nil)
      (pss_cons (ps_fld (pv 0) (pe_op op_add (PB.pe_fldK (K := K) (pv 0)) (pv 3)) rfl)
      (pss_one (ps_if (pt_cmpR op_notN1 (pv 2) pe_non (nomark _)) (pss_cons (ps_delL (PB.pe_fldK (K := K) (pv 0)) (pv 3))
      (pss_one (ps_expr (PB.pe_bmK (K := K) PySem.F.plainAttrs_list PySem.F.slot_list_insert PySem.F.type_list_insert PB.mt_insN (PB.pe_fldK (K := K) (pv 0)) (pa_cons (pv 2) (pa_cons (pv 1) pa_nil)))))) pss_nil))))), ?_⟩
    try dsimp only [cxOf, Cx.nox, Cx.wish]
    rw [show ∀ z0 z1 z2 : V, L2.start ["self", "name", "to", "place"] [z0, z1, z2] = [some z0, some z1, some z2, none] from fun _ _ _ => rfl]
    walk_at "pb"
    refine i_fldR hx T.cls_Rival T.noat_Rival_names rfl ?_
    walk_at "pb"
    refine ⟨rn, ns, z, rfl, SqL.of hl, hz, ?_⟩
    walk_at "pb"
    refine i_cut (fun σ' H' => H' = H ∧ σ' = [some (.ref x), some (.str z), some to, some (.int (ns.idxOf z : Nat))]) ?_ ?_
    · rcases hto with ⟨rfl, _⟩ | ⟨t, rfl, ht, _⟩
      · walk_at "pb"
        exact ⟨rfl, rfl⟩
      · walk_at "pb"
        refine b_dec (fun h => absurd h (by omega)) (fun _ => ?_)
        walk_at "pb"
        refine b_dec (fun h => absurd h (by omega)) (fun _ => ?_)
        walk_at "pb"
        exact ⟨rfl, rfl⟩
    rintro σ' H' ⟨rfl, rfl⟩
    walk_at "pb"
    refine i_fldR hx T.cls_Rival T.noat_Rival_cost rfl ?_
    walk_at "pb"
    refine i_sfldR hx T.cls_Rival T.noat_Rival_cost (show 2 < 1000 by decide) fun H1 k1 hx1 => ?_
    replace hl := k1.at_ _ _ (by simpa using hne.symm) hl
    replace hx1 : H1 x = some (.ins (He.ga K "Rival") dx [("names", .ref rn), ("cost", .int (c + (ns.idxOf z : Nat)))]) := hx1
    replace k1 : Keep [x, rn] H' H1 := k1.mono (by simp)
    walk_at "pb"
    rcases hto with ⟨rfl, rfl⟩ | ⟨t, rfl, ht, rfl⟩
    · walk_at "pb"
      exact q _ k1 ⟨⟨dx, hx1⟩, hl⟩
    · walk_at "pb"
      refine i_fldR hx1 T.cls_Rival T.noat_Rival_names rfl ?_
      walk_at "pb"
      refine i_del hl (by rw [List.length_map]; exact hlt) (by rw [List.length_map]; omega) fun H2 k2 hl2 => ?_
      replace hx1 := k2.at_ _ _ (by simpa using hne) hx1
      replace k2 : Keep [x, rn] H' H2 := k1.trans (k2.mono (by simp))
      walk_at "pb"
      refine i_fldR hx1 T.cls_Rival T.noat_Rival_names rfl ?_
      walk_at "pb"
      refine i_tyL (SqL.of hl2) ?_
      walk_at "pb"
      refine i_ins hl2 (by omega) (by omega) ?_ fun H3 k3 hl3 => ?_
      · have := List.length_eraseIdx_le (ns.map V.str) (ns.idxOf z)
        rw [List.length_map] at this
        omega
      replace hx1 := k3.at_ _ _ (by simpa using hne) hx1
      refine q _ (k2.trans (k3.mono (by simp))) ⟨⟨dx, hx1⟩, ?_⟩
      rw [hl3, movS, Int.toNat_natCast]
      rw [List.map_append, List.map_append, List.map_take, List.map_drop, er_map]
      rfl
theorem ok_Rival_call_1 {P : Program} {w : World} {K : PySem.W.Frag} {mg : Str → Option Value} {base : Heap} (T : Tx K mg) : OkM P w K mg base CX0 2 "Rival" "call" ["self", "name", "to"] [V.non] ((spRvCall K)) := by
  obtain ⟨fd, G, F⟩ := ok_Rival_call (P := P) (w := w) (base := base) T
  obtain ⟨ds, hv, hb⟩ := F.binds1 (ps := ["self", "name", "to"]) 2 0 (by simp) rfl fun _ _ _ _ _ _ _ us its hl hi => match us, its, hl, hi with | [_, _], [_], _, _ => ⟨_, rfl, rfl⟩
  exact ⟨fd, ds, G, T.cls_Rival, T.meth_Rival_call, hb, hv⟩
theorem ok_Rival_call_all {P : Program} {w : World} {K : PySem.W.Frag} {mg : Str → Option Value} {base : Heap} (T : Tx K mg) : OkM P w K mg base CX0 2 "Rival" "call" ["self", "name", "to"] [] ((spRvCall K)) := by
  obtain ⟨fd, G, F⟩ := ok_Rival_call (P := P) (w := w) (base := base) T
  obtain ⟨ds, hv, hb⟩ := F.binds1 (ps := ["self", "name", "to"]) 3 1 (by simp) rfl fun _ _ _ _ _ _ _ us its hl hi => match us, its, hl, hi with | [_, _, _], [_], _, _ => ⟨_, rfl, rfl⟩
  exact ⟨fd, ds, G, T.cls_Rival, T.meth_Rival_call, hb, hv⟩
/-- the i-th and the next one exchanged -/
def swpS (ns : List Str) (i : Nat) : List Str := (ns.set i (ns.getD (i + 1) default)).set (i + 1) (ns.getD i default)
def spRvExch (K : PySem.W.Frag) : Sp := fun vs H Q _ => ∃ (x rn : Addr) (ns : List Str) (c : Int) (i : Nat), vs = [.ref x, .int i] ∧ RvAt K H x rn ns c ∧ i + 1 < ns.length ∧ ns.length ≤ 1000 ∧
  ∀ H', Keep [x, rn] H H' → RvAt K H' x rn (swpS ns i) (c + 1) → Q .non H'
theorem ok_Rival_exchange {P : Program} {w : World} {K : PySem.W.Frag} {mg : Str → Option Value} {base : Heap} (T : Tx K mg) : OkM P w K mg base CX0 1 "Rival" "exchange" ["self", "at"] [] ((spRvExch K)) := by
  obtain ⟨fd, F⟩ := T.d_Rival_exchange
  refine ⟨fd, [], F.ok sc_Rival_exchange (fun vs H Q E h => ?len) (fun cdv A outer s H vs Q E hr h => ?body), T.cls_Rival, T.meth_Rival_exchange, F.bindsN fun _ _ _ _ _ _ us hl => match us, hl with | [_, _], _ => rfl, .nil⟩
  case len =>
    obtain ⟨x, rn, ns, c, i, rfl, _⟩ := h
    rfl
  case body =>
    obtain ⟨x, rn, ns, c, i, rfl, R, hi, hlen, q⟩ := h
    have hne := R.ne
    obtain ⟨⟨dx, hx⟩, hl⟩ := R
    refine ⟨_, PSs.nox (pss_cons (ps_if (PW.pt (pw_or (pt_cmpR op_lt (pv 1) pe_int (nomark _)) (pw_or1 (pt_cmpR op_ge (pe_op op_add (pv 1) pe_int) (pe_callB (PB.call_lenK (K := K)) (by rfl) T.f_len boot_len (pa_cons (PB.pe_fldK (K := K) (pv 0)) pa_nil)) (nomark _))))) (pss_one ps_dead) pss_nil)
      (pss_cons (ps_fld (pv 0) (pe_op op_add (PB.pe_fldK (K := K) (pv 0)) pe_int) rfl)
      (pss_one (ps_asg (pe_tup (pa_cons (pe_ix (PB.ix_listK (K := K)) (PB.pe_fldK (K := K) (pv 0)) (pe_op op_add (pv 1) pe_int) (fun _ _ => rfl)) (pa_cons (pe_ix (PB.ix_listK (K := K)) (PB.pe_fldK (K := K) (pv 0)) (pv 1) (fun _ _ => rfl)) pa_nil))) (PB.pg_tupK (K := K) 2 rfl (pgs_cons (pg_sub (PB.pe_fldK (K := K) (pv 0)) (pv 1) set_list) (pgs_cons (pg_sub (PB.pe_fldK (K := K) (pv 0)) (pe_op op_add (pv 1) pe_int) set_list) pgs_nil))))))), ?_⟩
    try dsimp only [cxOf, Cx.nox, Cx.wish]
    rw [show ∀ z0 z1 : V, L2.start ["self", "at"] [z0, z1] = [some z0, some z1] from fun _ _ => rfl]
    walk_at "pb"
    refine b_dec (fun h => absurd h (by omega)) (fun _ => ?_)
    walk_at "pb"
    refine i_fldR hx T.cls_Rival T.noat_Rival_names rfl ?_
    walk_at "pb"
    refine i_lenL (SqL.of hl) ?_
    rw [List.length_map]
    walk_at "pb"
    refine b_dec (fun h => absurd h (by omega)) (fun _ => ?_)
    walk_at "pb"
    refine i_fldR hx T.cls_Rival T.noat_Rival_cost rfl ?_
    walk_at "pb"
    refine i_sfldR hx T.cls_Rival T.noat_Rival_cost (show 2 < 1000 by decide) fun H1 k1 hx1 => ?_
    replace hl := k1.at_ _ _ (by simpa using hne.symm) hl
    replace hx1 : H1 x = some (.ins (He.ga K "Rival") dx [("names", .ref rn), ("cost", .int (c + 1))]) := hx1
    replace k1 : Keep [x, rn] H H1 := k1.mono (by simp)
    walk_at "pb"
    refine i_fldR hx1 T.cls_Rival T.noat_Rival_names rfl ?_
    walk_at "pb"
    refine i_ixL (SqL.of hl) (v := .str (ns.getD (i + 1) default)) ?_ ?_
    · rw [show (i : Int) + 1 = ((i + 1 : Nat) : Int) by omega]
      exact L2.atI_nat (by rw [List.getElem?_map, List.getD_eq_getElem?_getD, List.getElem?_eq_getElem hi]; rfl)
    walk_at "pb"
    refine i_fldR hx1 T.cls_Rival T.noat_Rival_names rfl ?_
    walk_at "pb"
    refine i_ixL (SqL.of hl) (v := .str (ns.getD i default)) ?_ ?_
    · exact L2.atI_nat (by rw [List.getElem?_map, List.getD_eq_getElem?_getD, List.getElem?_eq_getElem (by omega : i < ns.length)]; rfl)
    walk_at "pb"
    refine i_tupR (by walk_at "sz") fun p H2 hp k2 hp2 => ?_
    replace hl := k2.at_ _ _ (by simp) hl
    replace hx1 := k2.at_ _ _ (by simp) hx1
    replace k2 : Keep [x, rn] H H2 := k1.trans k2.same
    refine i_gtup (SqT.of hp2) rfl ?_
    walk_at "pb"
    refine i_fldR hx1 T.cls_Rival T.noat_Rival_names rfl ?_
    walk_at "pb"
    refine i_setL hl (j := i) (Evl.ixN_nat (by rw [List.length_map]; omega)) fun H3 k3 hl3 => ?_
    replace hx1 := k3.at_ _ _ (by simpa using hne) hx1
    replace k3 : Keep [x, rn] H H3 := k2.trans (k3.mono (by simp))
    walk_at "pb"
    refine i_fldR hx1 T.cls_Rival T.noat_Rival_names rfl ?_
    walk_at "pb"
    refine i_setL hl3 (j := i + 1) ?_ fun H4 k4 hl4 => ?_
    · rw [show (i : Int) + 1 = ((i + 1 : Nat) : Int) by omega]
      exact Evl.ixN_nat (by rw [List.length_set, List.length_map]; omega)
    replace hx1 := k4.at_ _ _ (by simpa using hne) hx1
    walk_at "pb"
    refine q _ (k3.trans (k4.mono (by simp))) ⟨⟨dx, hx1⟩, ?_⟩
    rw [hl4, swpS, List.map_set, List.map_set]
def insS (ns : List Str) (i : Nat) (z : Str) : List Str := ns.take i ++ [z] ++ ns.drop i
def spRvPut (K : PySem.W.Frag) : Sp := fun vs H Q _ => ∃ (x rn : Addr) (ns : List Str) (c : Int) (z : Str) (i : Nat), vs = [.ref x, .str z, .int i] ∧ RvAt K H x rn ns c ∧ z ∉ ns ∧ i ≤ ns.length ∧ ns.length ≤ 1000 ∧
  ∀ H', Keep [x, rn] H H' → RvAt K H' x rn (insS ns i z) c → Q .non H'
theorem ok_Rival_put {P : Program} {w : World} {K : PySem.W.Frag} {mg : Str → Option Value} {base : Heap} (T : Tx K mg) : OkM P w K mg base CX0 1 "Rival" "put" ["self", "name", "at"] [] ((spRvPut K)) := by
  obtain ⟨fd, F⟩ := T.d_Rival_put
  refine ⟨fd, [], F.ok sc_Rival_put (fun vs H Q E h => ?len) (fun cdv A outer s H vs Q E hr h => ?body), T.cls_Rival, T.meth_Rival_put, F.bindsN fun _ _ _ _ _ _ us hl => match us, hl with | [_, _, _], _ => rfl, .nil⟩
  case len =>
    obtain ⟨x, rn, ns, c, z, i, rfl, _⟩ := h
    rfl
  case body =>
    obtain ⟨x, rn, ns, c, z, i, rfl, R, hz, hi, hlen, q⟩ := h
    have hne := R.ne
    obtain ⟨⟨dx, hx⟩, hl⟩ := R
    refine ⟨_, PSs.nox (pss_cons (ps_if (pt_cmpR (PB.op_inK (K := K)) (pv 1) (PB.pe_fldK (K := K) (pv 0)) (by rfl)) (pss_one ps_dead) pss_nil)
      (pss_cons (ps_if (PW.pt (pw_or (pt_cmpR op_lt (pv 2) pe_int (nomark _)) (pw_or1 (pt_cmpR op_gt (pv 2) (pe_callB (PB.call_lenK (K := K)) (by rfl) T.f_len boot_len (pa_cons (PB.pe_fldK (K := K) (pv 0)) pa_nil)) (nomark _))))) (pss_one ps_dead) pss_nil)
      (pss_one (ps_expr (PB.pe_bmK (K := K) PySem.F.plainAttrs_list PySem.F.slot_list_insert PySem.F.type_list_insert PB.mt_insN (PB.pe_fldK (K := K) (pv 0)) (pa_cons (pv 2) (pa_cons (pv 1) pa_nil))))))), ?_⟩
    try dsimp only [cxOf, Cx.nox, Cx.wish]
    rw [show ∀ z0 z1 z2 : V, L2.start ["self", "name", "at"] [z0, z1, z2] = [some z0, some z1, some z2] from fun _ _ _ => rfl]
    walk_at "pb"
    refine i_fldR hx T.cls_Rival T.noat_Rival_names rfl ?_
    walk_at "pb"
    refine i_inS (SqL.of hl) ?_
    walk_at "pb"
    refine b_dec (fun h => absurd h hz) (fun _ => ?_)
    walk_at "pb"
    refine b_dec (fun h => absurd h (by omega)) (fun _ => ?_)
    walk_at "pb"
    refine i_fldR hx T.cls_Rival T.noat_Rival_names rfl ?_
    walk_at "pb"
    refine i_lenL (SqL.of hl) ?_
    rw [List.length_map]
    walk_at "pb"
    refine b_dec (fun h => absurd h (by omega)) (fun _ => ?_)
    walk_at "pb"
    refine i_fldR hx T.cls_Rival T.noat_Rival_names rfl ?_
    walk_at "pb"
    refine i_tyL (SqL.of hl) ?_
    walk_at "pb"
    refine i_ins hl (by omega) (by omega) (by rw [List.length_map]; omega) fun H3 k3 hl3 => ?_
    replace hx := k3.at_ _ _ (by simpa using hne) hx
    refine q _ (k3.mono (by simp)) ⟨⟨dx, hx⟩, ?_⟩
    rw [hl3, insS, Int.toNat_natCast, List.map_append, List.map_append, List.map_take, List.map_drop]
    rfl
def spRvDrop (K : PySem.W.Frag) : Sp := fun vs H Q _ => ∃ (x rn : Addr) (ns : List Str) (c : Int) (z : Str), vs = [.ref x, .str z] ∧ RvAt K H x rn ns c ∧ z ∈ ns ∧ ns.length ≤ 1000 ∧
  ∀ H', Keep [x, rn] H H' → RvAt K H' x rn (ns.eraseIdx (ns.idxOf z)) c → Q .non H'
theorem ok_Rival_drop {P : Program} {w : World} {K : PySem.W.Frag} {mg : Str → Option Value} {base : Heap} (T : Tx K mg) : OkM P w K mg base CX0 2 "Rival" "drop" ["self", "name"] [] ((spRvDrop K)) := by
  obtain ⟨fd, F⟩ := T.d_Rival_drop
  refine ⟨fd, [], F.ok sc_Rival_drop (fun vs H Q E h => ?len) (fun cdv A outer s H vs Q E hr h => ?body), T.cls_Rival, T.meth_Rival_drop, F.bindsN fun _ _ _ _ _ _ us hl => match us, hl with | [_, _], _ => rfl, .nil⟩
  case len =>
    obtain ⟨x, rn, ns, c, z, rfl, _⟩ := h
    rfl
  case body =>
    have O_place_of := ok_place_of (P := P) (w := w) (base := base) T
    obtain ⟨x, rn, ns, c, z, rfl, R, hz, hlen, q⟩ := h
    have hlt : ns.idxOf z < ns.length := List.idxOf_lt_length_iff.mpr hz
    have hne := R.ne
    obtain ⟨⟨dx, hx⟩, hl⟩ := R
    refine ⟨_, PSs.nox (pss_one (ps_delL (PB.pe_fldK (K := K) (pv 0)) (PB.pe_callF O_place_of (hr.mono (by decide)) pas0 (pa_cons (PB.pe_fldK (K := K) (pv 0)) (pa_cons (pv 1) pa_nil))))), ?_⟩
    try dsimp only [cxOf, Cx.nox, Cx.wish]
    rw [show ∀ z0 z1 : V, L2.start ["self", "name"] [z0, z1] = [some z0, some z1] from fun _ _ => rfl]
    walk_at "pb"
    refine i_fldR hx T.cls_Rival T.noat_Rival_names rfl ?_
    walk_at "pb"
    refine i_fldR hx T.cls_Rival T.noat_Rival_names rfl ?_
    walk_at "pb"
    refine ⟨rn, ns, z, rfl, SqL.of hl, hz, ?_⟩
    refine i_del hl (by rw [List.length_map]; exact hlt) (by rw [List.length_map]; omega) fun H2 k2 hl2 => ?_
    replace hx := k2.at_ _ _ (by simpa using hne) hx
    refine q _ (k2.mono (by simp)) ⟨⟨dx, hx⟩, ?_⟩
    rw [hl2, er_map]
/-! lists of names -/
theorem insS_perm (ns : List Str) (i : Nat) (z : Str) : (insS ns i z).Perm (z :: ns) := by
  rw [insS, List.append_assoc]
  refine (List.perm_middle (l₁ := ns.take i) (l₂ := ns.drop i)).trans ?_
  rw [List.take_append_drop]
theorem er_perm {ns : List Str} {z : Str} (hz : z ∈ ns) : (z :: ns.eraseIdx (ns.idxOf z)).Perm ns := by
  have hlt : ns.idxOf z < ns.length := List.idxOf_lt_length_iff.mpr hz
  have e : ns[ns.idxOf z] = z := by simp
  rw [List.eraseIdx_eq_take_drop_succ]
  refine (List.perm_middle (l₁ := ns.take (ns.idxOf z))).symm.trans ?_
  have e2 : z :: ns.drop (ns.idxOf z + 1) = ns.drop (ns.idxOf z) := by
    rw [List.drop_eq_getElem_cons hlt, e]
  rw [e2, List.take_append_drop]
theorem movS_perm {ns : List Str} {z : Str} (hz : z ∈ ns) (t : Nat) : (movS ns z t).Perm ns := (insS_perm _ t z).trans (er_perm hz)
theorem movS_eq {ns : List Str} {z : Str} {t : Nat} (hz : z ∈ ns) (ht : t ≤ ns.idxOf z) : movS ns z t = (ns.take t ++ [z]) ++ (ns.drop t).take (ns.idxOf z - t) ++ ns.drop (ns.idxOf z + 1) := by
  have hlt : ns.idxOf z < ns.length := List.idxOf_lt_length_iff.mpr hz
  have hl : (ns.take (ns.idxOf z)).length = ns.idxOf z := by rw [List.length_take]; omega
  rw [movS, List.eraseIdx_eq_take_drop_succ, List.take_append_of_le_length (by omega), List.drop_append_of_le_length (by omega), List.take_take, Nat.min_eq_left ht, List.drop_take, List.append_assoc, List.append_assoc, List.append_assoc]
theorem swpS_eq {ns : List Str} {i : Nat} (hi : i + 1 < ns.length) : swpS ns i = (ns.take i ++ [ns.getD (i + 1) default, ns.getD i default]) ++ ns.drop (i + 2) := by
  have e0 : ns.set i (ns.getD (i + 1) default) = ns.take i ++ ns.getD (i + 1) default :: ns.drop (i + 1) := by rw [List.set_eq_take_append_cons_drop, if_pos (by omega)]
  rw [swpS, e0, List.set_eq_take_append_cons_drop]
  have hl : (ns.take i).length = i := by rw [List.length_take]; omega
  have hlen : (ns.take i ++ ns.getD (i + 1) default :: ns.drop (i + 1)).length = ns.length := by
    rw [List.length_append, hl, List.length_cons, List.length_drop]
    omega
  rw [hlen, if_pos hi]
  have e1 : (ns.take i ++ ns.getD (i + 1) default :: ns.drop (i + 1)).take (i + 1) = ns.take i ++ [ns.getD (i + 1) default] := by
    rw [List.take_append, hl, show i + 1 - i = 1 by omega]
    rw [List.take_of_length_le (by omega)]
    rfl
  have e2 : (ns.take i ++ ns.getD (i + 1) default :: ns.drop (i + 1)).drop (i + 1 + 1) = ns.drop (i + 2) := by
    rw [List.drop_append, hl, List.drop_of_length_le (by omega), show i + 1 + 1 - i = 2 by omega]
    simp
  rw [e1, e2]
  simp
theorem swpS_perm {ns : List Str} {i : Nat} (hi : i + 1 < ns.length) : (swpS ns i).Perm ns := by
  have h1 : ns.getD i default = ns[i] := by rw [List.getD_eq_getElem?_getD, List.getElem?_eq_getElem (by omega)]; rfl
  have h2 : ns.getD (i + 1) default = ns[i + 1] := by rw [List.getD_eq_getElem?_getD, List.getElem?_eq_getElem hi]; rfl
  rw [swpS_eq hi, h1, h2]
  have e : ns = (ns.take i ++ [ns[i], ns[i + 1]]) ++ ns.drop (i + 2) := by
    conv => lhs; rw [← List.take_append_drop i ns, List.drop_eq_getElem_cons (by omega : i < ns.length), List.drop_eq_getElem_cons hi]
    simp
  conv => rhs; rw [e]
  exact ((List.Perm.swap ..).append_left _).append_right _
theorem er_filter {ns : List Str} (h : ns.Nodup) (z : Str) : ns.eraseIdx (ns.idxOf z) = ns.filter (fun x => x != z) := by
  rw [← List.erase_eq_eraseIdx_of_idxOf rfl, h.erase_eq_filter]
/-- names of the pool, each once, at most m -/
structure Gd (ns pool : List Str) (m : Nat) : Prop where
  nd : ns.Nodup
  sub : ∀ x ∈ ns, x ∈ pool
  len : ns.length ≤ m
theorem Gd.perm {ns ns' pool : List Str} {m : Nat} (h : Gd ns pool m) (p : ns'.Perm ns) : Gd ns' pool m := ⟨p.nodup_iff.mpr h.nd, fun x hx => h.sub x (p.subset hx), by rw [p.length_eq]; exact h.len⟩
theorem Gd.mono {ns pool : List Str} {m k : Nat} (h : Gd ns pool m) (hk : m ≤ k) : Gd ns pool k := ⟨h.nd, h.sub, Nat.le_trans h.len hk⟩
theorem Gd.ins {ns pool : List Str} {m i : Nat} {z : Str} (h : Gd ns pool m) (hz : z ∉ ns) (hp : z ∈ pool) : Gd (insS ns i z) pool (m + 1) := by
  have p := insS_perm ns i z
  refine ⟨p.nodup_iff.mpr (List.nodup_cons.mpr ⟨hz, h.nd⟩), fun x hx => ?_, by rw [p.length_eq, List.length_cons]; have := h.len; omega⟩
  rcases List.mem_cons.mp (p.subset hx) with rfl | hx
  · exact hp
  · exact h.sub x hx
theorem Gd.er {ns pool : List Str} {m i : Nat} (h : Gd ns pool m) : Gd (ns.eraseIdx i) pool m :=
  have s := List.eraseIdx_sublist ns i
  ⟨h.nd.sublist s, fun x hx => h.sub x (s.subset hx), Nat.le_trans s.length_le h.len⟩
/-- the spring, a rival, the law's list of its names, the pool -/
structure W5 (K : PySem.W.Frag) (S l R rn nl pl : Addr) (n : Nat) (ms ns pool : List Str) (c : Int) (H : Hp) : Prop where
  hS : Stm S l n H
  hR : RvAt K H R rn ns c
  hn : H nl = some (.lst (ms.map V.str))
  hp : H pl = some (.lst (pool.map V.str))
  d1 : rn ∉ [S, l]
  d2 : nl ∉ [S, l, rn]
  d3 : pl ∉ [S, l, rn, nl]
section
variable {K : PySem.W.Frag} {S l R rn nl pl : Addr} {n : Nat} {ms ns pool : List Str} {c : Int} {H H' : Hp}
theorem W5.offR (w : W5 K S l R rn nl pl n ms ns pool c H) : R ∉ [S, l, nl, pl] := by
  obtain ⟨dx, e⟩ := w.hR.ob
  have h1 := w.hS.off e (fun _ z => nomatch z)
  have h2 : R ≠ nl := ne_of e w.hn (fun z => nomatch z)
  have h3 : R ≠ pl := ne_of e w.hp (fun z => nomatch z)
  simp at h1 ⊢
  exact ⟨h1.1, h1.2, h2, h3⟩
theorem W5.keep0 (w : W5 K S l R rn nl pl n ms ns pool c H) (k : Keep [] H H') : W5 K S l R rn nl pl n ms ns pool c H' :=
  ⟨w.hS.keep k (by simp) (by simp), w.hR.keep k (by simp) (by simp), k.at_ _ _ (by simp) w.hn, k.at_ _ _ (by simp) w.hp, w.d1, w.d2, w.d3⟩
theorem W5.draws {n' : Nat} (w : W5 K S l R rn nl pl n ms ns pool c H) (k : Keep [S, l] H H') (h : Stm S l n' H') : W5 K S l R rn nl pl n' ms ns pool c H' := by
  have o := w.offR
  have d2 := w.d2
  have d3 := w.d3
  refine ⟨h, w.hR.keep k ?_ w.d1, k.at_ _ _ ?_ w.hn, k.at_ _ _ ?_ w.hp, w.d1, w.d2, w.d3⟩
  · simp at o ⊢; exact ⟨o.1, o.2.1⟩
  · simp at d2 ⊢; exact ⟨d2.1, d2.2.1⟩
  · simp at d3 ⊢; exact ⟨d3.1, d3.2.1⟩
theorem W5.rival {ns' : List Str} {c' : Int} (w : W5 K S l R rn nl pl n ms ns pool c H) (k : Keep [R, rn] H H') (r : RvAt K H' R rn ns' c') : W5 K S l R rn nl pl n ms ns' pool c' H' := by
  have o := w.offR
  have d1 := w.d1
  have d2 := w.d2
  have d3 := w.d3
  simp at o d1 d2 d3
  refine ⟨w.hS.keep k ?_ ?_, r, k.at_ _ _ ?_ w.hn, k.at_ _ _ ?_ w.hp, w.d1, w.d2, w.d3⟩
  · simp; exact ⟨fun e => o.1 e.symm, fun e => d1.1 e.symm⟩
  · simp; exact ⟨fun e => o.2.1 e.symm, fun e => d1.2 e.symm⟩
  · simp; exact ⟨fun e => o.2.2.1 e.symm, d2.2.2⟩
  · simp; exact ⟨fun e => o.2.2.2 e.symm, d3.2.2.1⟩
theorem W5.mutN {ms' : List Str} (w : W5 K S l R rn nl pl n ms ns pool c H) (k : Keep [nl] H H') (h : H' nl = some (.lst (ms'.map V.str))) : W5 K S l R rn nl pl n ms' ns pool c H' := by
  have o := w.offR
  have d2 := w.d2
  have d3 := w.d3
  simp at o d2 d3
  refine ⟨w.hS.keep k ?_ ?_, w.hR.keep k ?_ ?_, h, k.at_ _ _ ?_ w.hp, w.d1, w.d2, w.d3⟩
  · simp; exact fun e => d2.1 e.symm
  · simp; exact fun e => d2.2.1 e.symm
  · simp; exact o.2.2.1
  · simp; exact fun e => d2.2.2 e.symm
  · simp; exact d3.2.2.2
theorem W5.newN {ms' : List Str} {nl' : Addr} {H0 : Hp} (w0 : W5 K S l R rn nl pl n ms ns pool c H0) (w : W5 K S l R rn nl pl n ms ns pool c H) (hf : H0 nl' = none) (h : H nl' = some (.lst (ms'.map V.str))) : W5 K S l R rn nl' pl n ms' ns pool c H := by
  have h1 := w0.hS.fresh hf
  have h2 := ne_of_none w0.hR.li hf
  have h3 := ne_of_none w0.hp hf
  have d3 := w.d3
  simp at h1 d3
  refine ⟨w.hS, w.hR, h, w.hp, w.d1, ?_, ?_⟩
  · simp; exact ⟨h1.1, h1.2, fun e => h2 e.symm⟩
  · simp; exact ⟨d3.1, d3.2.1, d3.2.2.1, h3⟩
theorem W5.keepG {g : Addr} (w : W5 K S l R rn nl pl n ms ns pool c H) (k : Keep [g] H H') (hg : g ∉ [S, l, R, rn, nl, pl]) : W5 K S l R rn nl pl n ms ns pool c H' := by
  simp at hg
  obtain ⟨g1, g2, g3, g4, g5, g6⟩ := hg
  exact ⟨w.hS.keep k (by simpa using fun e => g1 e.symm) (by simpa using fun e => g2 e.symm), w.hR.keep k (by simpa using fun e => g3 e.symm) (by simpa using fun e => g4 e.symm), k.at_ _ _ (by simpa using fun e => g5 e.symm) w.hn, k.at_ _ _ (by simpa using fun e => g6 e.symm) w.hp, w.d1, w.d2, w.d3⟩
theorem W5.newR {n' : Nat} {H7 H8 H9 H10 : Hp} {dx : Addr} {fs : List (Str × V)} (hS : Stm S l n' H7) (hn : H7 nl = some (.lst (ms.map V.str))) (hp : H7 pl = some (.lst (pool.map V.str))) (d2 : nl ∉ [S, l]) (d3 : pl ∉ [S, l, nl]) (k8 : Keep [] H7 H8) (hR : H8 R = none) (k9 : Keep [] H8 H9)
    (h9 : H9 R = some (.ins (He.ga K "Rival") dx fs)) (hr : H9 rn = none) (k10 : Keep [R] H9 H10) (r : RvAt K H10 R rn ns c) : Keep [] H7 H10 ∧ H7 R = none ∧ H7 rn = none ∧ W5 K S l R rn nl pl n' ms ns pool c H10 := by
  have f1 : H7 R = none := k8.free (by simp) hR
  have f2 : H7 rn = none := (k8.trans k9).free (by simp) hr
  have kk : Keep [] H7 H10 := (k8.trans k9).fresh1 f1 k10
  have e1 := ne_of_none hn f2
  have e2 := ne_of_none hp f2
  simp at d2 d3
  refine ⟨kk, f1, f2, hS.keep kk (by simp) (by simp), r, kk.at_ _ _ (by simp) hn, kk.at_ _ _ (by simp) hp, hS.fresh f2, ?_, ?_⟩
  · simp; exact ⟨d2.1, d2.2, e1⟩
  · simp; exact ⟨d3.1, d3.2.1, e2, d3.2.2⟩
theorem strs_sc (ns : List Str) : ∀ x ∈ ns.map V.str, isSc x := by
  intro x hx
  obtain ⟨z, _, rfl⟩ := List.mem_map.mp hx
  trivial
end

def spLaw (K : PySem.W.Frag) : Sp := fun vs H Q _ => ∃ (a : Addr) (ns : List Int), vs = [.ref a] ∧ SqL K H a (ns.map V.int) ∧ ns.length ≤ 63 ∧ ∀ H', Q (.bl true) H'
theorem ok_law {P : Program} {w : World} {K : PySem.W.Frag} {mg : Str → Option Value} {base : Heap} (T : Tx K mg) {fd : FuncData} (F : FunD K "law" "law" (defArgs (topS 15)) (defBody (topS 15)) (defScope (topS 15)) [] [] (He.ga K "law") fd) : FnOk P w K mg base CX0 9 (He.ga K "law") fd ["_law_script"] (spLaw K) := by
  refine F.ok sc_law (fun vs H Q E h => ?len) (fun cdv A outer s H vs Q E hr h => ?body)
  case len =>
    obtain ⟨a, ns, rfl, _⟩ := h
    rfl
  case body =>
    have O_l_start := ok_l_start (P := P) (w := w) (base := base) T
    have O_l_p_names := ok_l_p_names (P := P) (w := w) (base := base) T
    have O_l_draw := ok_l_draw (P := P) (w := w) (base := base) T
    have O_Rival := ok_Rival_DinitD (P := P) (w := w) (base := base) T
    have O_l_pick := ok_l_pick (P := P) (w := w) (base := base) T
    have O_Rival_put := ok_Rival_put (P := P) (w := w) (base := base) T
    have O_Rival_drop := ok_Rival_drop (P := P) (w := w) (base := base) T
    have O_Rival_exchange := ok_Rival_exchange (P := P) (w := w) (base := base) T
    have O_Rival_call_1 := ok_Rival_call_1 (P := P) (w := w) (base := base) T
    have O_Rival_call := ok_Rival_call_all (P := P) (w := w) (base := base) T
    have O_Rival_order := ok_Rival_order (P := P) (w := w) (base := base) T
    have O_l_same := ok_l_same (P := P) (w := w) (base := base) T
    have O_Rival_DcontainsD := ok_Rival_DcontainsD (P := P) (w := w) (base := base) T
    have O_Rival_DlenD := ok_Rival_DlenD (P := P) (w := w) (base := base) T
    obtain ⟨a, ns, rfl, hs, hl, q⟩ := h
    refine ⟨_, PSs.nox (pss_cons (ps_set (i := 1) sc_law.nd rfl (Or.inl rfl) (PB.pe_callF O_l_start (hr.mono (by decide)) pas0 (pa_cons (pv 0) pa_nil)))
      (pss_cons (ps_set (i := 2) sc_law.nd rfl (Or.inl rfl) (PB.pe_callF O_l_p_names (hr.mono (by decide)) pas0 (pa_cons (pv 1) (pa_cons pe_int pa_nil))))
      (pss_cons (ps_asg (pe_tup (pa_cons (pe_slice (PB.sl_listK (K := K)) (pv 2) po_none (po_some (PB.pe_callF O_l_draw (hr.mono (by decide)) pas0 (pa_cons (pv 1) (pa_cons pe_int pa_nil))))) (pa_cons pe_int pa_nil))) (PB.pg_tupK (K := K) 2 rfl (pgs_cons (pg_name (i := 3) sc_law.nd rfl (Or.inr rfl)) (pgs_cons (pg_name (i := 4) sc_law.nd rfl (Or.inl rfl)) pgs_nil))))
      (pss_cons (ps_set (i := 5) sc_law.nd rfl (Or.inl rfl) (pe_callTy (PB.call_listK (K := K)) (by rfl) T.f_list (by decide +kernel) (pa_cons (pv 3) pa_nil)))
      (C8.pss_cut (ps_set (i := 6) sc_law.nd rfl (Or.inr rfl) (PB.pe_makeK (K := K) O_Rival (hr.mono (by decide)) pas0 (pa_cons (pe_ifExp (pt_cmpR op_eq (PB.pe_callF O_l_draw (hr.mono (by decide)) pas0 (pa_cons (pv 1) (pa_cons pe_int pa_nil))) pe_int (nomark _)) (pe_callTy (PB.call_tupK (K := K)) (by rfl) T.f_tuple (by decide +kernel) (pa_cons (pv 5) pa_nil)) (pv 5)) pa_nil)))
      (pss_cons (ps_if (pt_cmpR (op_neD (hr64 hr)) (pv 5) (pv 3) (nomark _)) (pss_one (ps_ret pe_bl)) pss_nil)
      (pss_cons (ps_expr (PB.pe_bmK (K := K) PySem.F.plainAttrs_list PySem.F.slot_list_append PySem.F.type_list_append mt_append (pv 5) (pa_cons pe_str pa_nil)))
      (pss_cons (ps_for PassesOwn.never rfl (pi_range1 rfl T.f_range (pa_cons pe_int pa_nil)) (pg_name (i := 7) sc_law.nd rfl (Or.inl rfl)) (pss_cons (ps_asg (pe_tup (pa_cons (PB.pe_callF O_l_draw (hr.mono (by decide)) pas0 (pa_cons (pv 1) (pa_cons pe_int pa_nil))) (pa_cons (PB.pe_callF O_l_pick (hr.mono (by decide)) pas0 (pa_cons (pv 1) (pa_cons (pv 2) pa_nil))) pa_nil))) (PB.pg_tupK (K := K) 2 rfl (pgs_cons (pg_name (i := 8) sc_law.nd rfl (Or.inl rfl)) (pgs_cons (pg_name (i := 9) sc_law.nd rfl (Or.inr rfl)) pgs_nil))))
      (C8.pss_cut (ps_if (pt_cmpR (PB.op_ninK (K := K)) (pv 9) (pv 3) (by rfl)) (pss_cons (ps_set (i := 10) sc_law.nd rfl (Or.inl rfl) (PB.pe_callF O_l_draw (hr.mono (by decide)) pas0 (pa_cons (pv 1) (pa_cons (pe_op op_add (pe_callB (PB.call_lenK (K := K)) (by rfl) T.f_len boot_len (pa_cons (pv 3) pa_nil)) pe_int) pa_nil))))
      (pss_cons (ps_expr (PB.pe_bmK (K := K) PySem.F.plainAttrs_list PySem.F.slot_list_insert PySem.F.type_list_insert PB.mt_insN (pv 3) (pa_cons (pv 10) (pa_cons (pv 9) pa_nil))))
      (pss_one (ps_set (i := 11) sc_law.nd rfl (Or.inl rfl) (PB.pe_methK (K := K) O_Rival_put (hr.mono (by decide)) pas0 (pv 6) (pa_cons (pv 9) (pa_cons (pv 10) pa_nil))))))) (pss_one (ps_if (pt_cmpR op_eq (pv 8) pe_int (nomark _)) (pss_cons (ps_set (i := 3) sc_law.nd rfl (Or.inr rfl) (pe_lc (own := [("_law_one", 12)]) (g := gName 12) (by rfl) sc_law.nd (PB.pi_listK (K := K) (pv 3)) (blkOk_by (own := [("_law_one", 12)]) (N := ["_law_script", "_law_stream", "_law_pool", "_law_names", "_law_cost", "_law_given", "_law_rival", "_law_turn", "_law_kind", "_law_name", "_law_at", "_law_found", "_law_one", "_law_place", "_law_to", "_law_ahead"]) (sc := defScope (topS 15)) (by decide +kernel)) (fun _ _ _ _ _ => (pg_name (i := 12) sc_law.nd rfl (Or.inl rfl))) (fun _ _ _ _ _ => (pts_one (pt_cmpR op_ne (pv 12) (pv 9) (nomark _)))) (fun _ _ _ _ _ => (pv 12))))
      (pss_one (ps_set (i := 11) sc_law.nd rfl (Or.inl rfl) (PB.pe_methK (K := K) O_Rival_drop (hr.mono (by decide)) pas0 (pv 6) (pa_cons (pv 9) pa_nil))))) (pss_one (ps_if (PW.pt (pw_and (pt_cmpR op_eq (pv 8) pe_int (nomark _)) (pw_and1 (pt_cmpR op_gt (pe_callB (PB.call_lenK (K := K)) (by rfl) T.f_len boot_len (pa_cons (pv 3) pa_nil)) pe_int (nomark _))))) (pss_cons (ps_set (i := 10) sc_law.nd rfl (Or.inl rfl) (PB.pe_callF O_l_draw (hr.mono (by decide)) pas0 (pa_cons (pv 1) (pa_cons (pe_op op_sub (pe_callB (PB.call_lenK (K := K)) (by rfl) T.f_len boot_len (pa_cons (pv 3) pa_nil)) pe_int) pa_nil))))
      (pss_cons (ps_set (i := 3) sc_law.nd rfl (Or.inr rfl) (pe_op op_cat (pe_op op_cat (pe_slice (PB.sl_listK (K := K)) (pv 3) po_none (po_some (pv 10))) (pe_lst (pa_cons (pe_ix (PB.ix_listK (K := K)) (pv 3) (pe_op op_add (pv 10) pe_int) (fun _ _ => rfl)) (pa_cons (pe_ix (PB.ix_listK (K := K)) (pv 3) (pv 10) (fun _ _ => rfl)) pa_nil)))) (pe_slice (PB.sl_listK (K := K)) (pv 3) (po_some (pe_op op_add (pv 10) pe_int)) po_none)))
      (pss_one (ps_par (i := 4) (j := 11) (by rfl) sc_law.nd rfl rfl (by decide) rfl rfl (pa_cons (pe_op op_add (pv 4) pe_int) (pa_cons (PB.pe_methK (K := K) O_Rival_exchange (hr.mono (by decide)) pas0 (pv 6) (pa_cons (pv 10) pa_nil)) pa_nil)) (by rfl))))) (pss_one (ps_if (pt_cmpR op_eq (pv 8) pe_int (nomark _)) (pss_one (ps_par (i := 4) (j := 11) (by rfl) sc_law.nd rfl rfl (by decide) rfl rfl (pa_cons (pe_op op_add (pv 4) (PB.pe_bmK (K := K) PySem.F.plainAttrs_list PySem.F.slot_list_index PySem.F.type_list_index (PB.mt_indexK (K := K)) (pv 3) (pa_cons (pv 9) pa_nil))) (pa_cons (PB.pe_methK (K := K) O_Rival_call_1 (hr.mono (by decide)) pas0 (pv 6) (pa_cons (pv 9) pa_nil)) pa_nil)) (by rfl))) (pss_cons (ps_set (i := 13) sc_law.nd rfl (Or.inl rfl) (PB.pe_bmK (K := K) PySem.F.plainAttrs_list PySem.F.slot_list_index PySem.F.type_list_index (PB.mt_indexK (K := K)) (pv 3) (pa_cons (pv 9) pa_nil)))
      (pss_cons (ps_set (i := 14) sc_law.nd rfl (Or.inl rfl) (PB.pe_callF O_l_draw (hr.mono (by decide)) pas0 (pa_cons (pv 1) (pa_cons (pe_op op_add (pv 13) pe_int) pa_nil))))
      (pss_cons (ps_set (i := 4) sc_law.nd rfl (Or.inl rfl) (pe_op op_add (pv 4) (pv 13)))
      (pss_cons (ps_set (i := 15) sc_law.nd rfl (Or.inl rfl) (pe_op op_cat (pe_slice (PB.sl_listK (K := K)) (pv 3) po_none (po_some (pv 14))) (pe_lst (pa_cons (pv 9) pa_nil))))
      (pss_cons (ps_set (i := 3) sc_law.nd rfl (Or.inr rfl) (pe_op op_cat (pe_op op_cat (pv 15) (pe_slice (PB.sl_listK (K := K)) (pv 3) (po_some (pv 14)) (po_some (pv 13)))) (pe_slice (PB.sl_listK (K := K)) (pv 3) (po_some (pe_op op_add (pv 13) pe_int)) po_none)))
      (pss_one (ps_set (i := 11) sc_law.nd rfl (Or.inl rfl) (PB.pe_methK (K := K) O_Rival_call (hr.mono (by decide)) pas0 (pv 6) (pa_cons (pv 9) (pa_cons (pv 14) pa_nil)))))))))))))))))
      (pss_cons (ps_if (PW.pt (pw_or (pt_cmpR op_notN1 (pv 11) pe_non (nomark _)) (pw_or (pt_not (pt_val (PB.pe_callF O_l_same (hr.mono (by decide)) pas0 (pa_cons (PB.pe_propK (K := K) O_Rival_order (hr.mono (by decide)) (pv 6)) (pa_cons (pv 3) pa_nil))))) (pw_or1 (pt_not (pt_val (PB.pe_callF O_l_same (hr.mono (by decide)) pas0 (pa_cons (PB.pe_fldK (K := K) (pv 6)) (pa_cons (pv 4) pa_nil))))))))) (pss_one (ps_ret pe_bl)) pss_nil)
      (pss_cons (ps_expr (PB.pe_bmK (K := K) PySem.F.plainAttrs_list PySem.F.slot_list_append PySem.F.type_list_append mt_append (PB.pe_propK (K := K) O_Rival_order (hr.mono (by decide)) (pv 6)) (pa_cons pe_str pa_nil)))
      (pss_one (ps_if (PW.pt (pw_or (pt_cmpR op_ne (pe_callBS (call_lenOwn O_Rival_DlenD (hr.mono (by decide)) pas0) (by rfl) T.f_len boot_len (pa_cons (pv 6) pa_nil)) (pe_callB (PB.call_lenK (K := K)) (by rfl) T.f_len boot_len (pa_cons (pv 3) pa_nil)) (nomark _)) (pw_or1 (pt_not (pt_val (pe_callB (PB.cr_allK (K := K)) (by rfl) T.f_all (by decide +kernel) (pa_cons (pe_lc (own := [("_law_one", 12)]) (g := gName 12) (by rfl) sc_law.nd (PB.pi_listK (K := K) (pv 2)) (blkOk_by (own := [("_law_one", 12)]) (N := ["_law_script", "_law_stream", "_law_pool", "_law_names", "_law_cost", "_law_given", "_law_rival", "_law_turn", "_law_kind", "_law_name", "_law_at", "_law_found", "_law_one", "_law_place", "_law_to", "_law_ahead"]) (sc := defScope (topS 15)) (by decide +kernel)) (fun _ _ _ _ _ => (pg_name (i := 12) sc_law.nd rfl (Or.inl rfl))) (fun _ _ _ _ _ => pts_nil) (fun _ _ _ _ _ => (pe_cmpR op_eq (pe_cmpS (op_inOwnK (K := K) O_Rival_DcontainsD (hr.mono (by decide)) pas0) (pv 12) (pv 6) (by rfl)) (pe_cmpR (PB.op_inK (K := K)) (pv 12) (pv 3) (by rfl)) (nomark _)))) pa_nil))))))) (pss_one (ps_ret pe_bl)) pss_nil)))))))
      (pss_one (ps_ret (PB.pe_callF O_l_same (hr.mono (by decide)) pas0 (pa_cons (PB.pe_propK (K := K) O_Rival_order (hr.mono (by decide)) (pv 6)) (pa_cons (pv 3) pa_nil))))))))))))), ?_⟩
    try dsimp only [cxOf, Cx.nox, Cx.wish]
    rw [show ∀ z0 : V, L2.start ["_law_script", "_law_stream", "_law_pool", "_law_names", "_law_cost", "_law_given", "_law_rival", "_law_turn", "_law_kind", "_law_name", "_law_at", "_law_found", "_law_one", "_law_place", "_law_to", "_law_ahead"] [z0] = [some z0, none, none, none, none, none, none, none, none, none, none, none, none, none, none, none] from fun _ => rfl]
    walk_at "pb"
    refine ⟨a, ns, rfl, hs, hl, fun S l H1 _ _ k1 hS0 => ?_⟩
    walk_at "pb"
    refine ⟨S, l, 0, 7, rfl, by omega, by omega, hS0, fun H2 pl pool hpl k2 hS hp pn plen pok => ?_⟩
    have dpl : pl ∉ [S, l] := hS0.fresh hpl
    walk_at "pb"
    refine ⟨S, l, 14, 7, rfl, by decide, by decide +kernel, by omega, hS, fun H3 r k3 hS h0 h7 => ?_⟩
    replace hp := k3.at_ _ _ dpl hp
    obtain ⟨r, rfl⟩ : ∃ r' : Nat, r = r' := ⟨r.toNat, by omega⟩
    walk_at "pb"
    refine i_slL (SqL.of hp) fun nl H4 hnl k4 hn => ?_
    rw [cut_to _ _ (by rw [List.length_map]; omega), ← List.map_take] at hn
    have dnl := hS.fresh hnl
    have dnp : pl ≠ nl := ne_of_none hp hnl
    have g0 : Gd (pool.take r) pool 7 := ⟨pn.sublist (List.take_sublist ..), fun x hx => List.mem_of_mem_take hx, by rw [List.length_take]; omega⟩
    generalize pool.take r = ns0 at hn g0
    walk_at "pb"
    refine i_tupR (by walk_at "sz") fun tp H5 _ k5 htp => ?_
    refine i_gtup (SqT.of htp) rfl ?_
    have hn5 : H5 nl = some (.lst (ns0.map V.str)) := k5.at_ _ _ (by simp) hn
    replace k5 := k4.trans k5
    replace hS := hS.keep k5 (by simp) (by simp)
    replace hp := k5.at_ _ _ (by simp) hp
    walk_at "pb"
    refine i_listL (SqL.of hn5) fun gl H6 hgl k6 hg => ?_
    have dgl := hS.fresh hgl
    have dgn : nl ≠ gl := ne_of_none hn5 hgl
    have dgp : pl ≠ gl := ne_of_none hp hgl
    replace hS := hS.keep k6 (by simp) (by simp)
    replace hp := k6.at_ _ _ (by simp) hp
    have hn6 := k6.at_ _ _ (by simp) hn5
    clear hn hn5 k1 k2 k3 k4 k5 k6 htp hnl hgl hpl
    walk_at "pb"
    refine i_cut (fun σ' H' => ∃ R rn, σ' = [some (.ref a), some (.ref S), some (.ref pl), some (.ref nl), some (.int 0), some (.ref gl), some (.ref R), none, none, none, none, none, none, none, none, none] ∧ W5 K S l R rn nl pl 16 ns0 ns0 pool 0 H' ∧ H' gl = some (.lst (ns0.map V.str)) ∧ gl ∉ [S, l, R, rn, nl, pl]) ?_ ?_
    · walk_at "pb"
      refine ⟨S, l, 15, 2, rfl, by decide, by decide +kernel, by omega, hS, fun H7 r2 k7 hS h0 h2 => ?_⟩
      replace hp := k7.at_ _ _ dpl hp
      replace hn6 := k7.at_ _ _ dnl hn6
      replace hg := k7.at_ _ _ dgl hg
      simp at dpl dnl dgl
      have fin : ∀ {H8 H9 H10 : Hp} {R rn dx : Addr} {fs : List (Str × V)}, Keep [] H7 H8 → H8 R = none → Keep [] H8 H9 → H9 R = some (.ins (He.ga K "Rival") dx fs) → H9 rn = none → Keep [R] H9 H10 → RvAt K H10 R rn ns0 0 → W5 K S l R rn nl pl 16 ns0 ns0 pool 0 H10 ∧ H10 gl = some (.lst (ns0.map V.str)) ∧ gl ∉ [S, l, R, rn, nl, pl] := by
        intro H8 H9 H10 R rn dx fs k8 hR k9 h9 hr k10 rv
        obtain ⟨kk, f1, f2, w⟩ := W5.newR hS hn6 hp (by simp; exact dnl) (by simp; exact ⟨dpl.1, dpl.2, dnp⟩) k8 hR k9 h9 hr k10 rv
        refine ⟨w, kk.at_ _ _ (by simp) hg, ?_⟩
        simp
        exact ⟨dgl.1, dgl.2, ne_of_none hg f1, ne_of_none hg f2, dgn.symm, dgp.symm⟩
      walk_at "pb"
      refine b_eqI (fun _ => ?_) (fun _ => ?_)
      · walk_at "pb"
        refine i_tupL (SqL.of hg) fun tp2 H8 _ k8 htp2 => ?_
        walk_at "pb"
        refine i_newI fun R dx H9 hR k9 hx9 => ?_
        refine ⟨R, dx, tp2, ns0, rfl, hx9, .inr (SqT.of (k9.at_ _ _ (by simp) htp2)), fun H10 rn hrn k10 rv => ⟨rfl, ?_⟩⟩
        walk_at "pb"
        exact ⟨R, rn, rfl, fin k8 hR k9 hx9 hrn k10 rv⟩
      · walk_at "pb"
        refine i_newI fun R dx H9 hR k9 hx9 => ?_
        refine ⟨R, dx, gl, ns0, rfl, hx9, .inl (SqL.of (k9.at_ _ _ (by simp) hg)), fun H10 rn hrn k10 rv => ⟨rfl, ?_⟩⟩
        walk_at "pb"
        exact ⟨R, rn, rfl, fin (.refl _) hR k9 hx9 hrn k10 rv⟩
    clear hS hp hn6 hg
    rintro σ' H7 ⟨R, rn, rfl, w, hg, dg⟩
    have ok0 : ∀ x ∈ ns0, PyData.strOk x = true := fun x hx => pok x (g0.sub x hx)
    walk_at "pb"
    refine i_neS (SqL.of hg) (SqL.of w.hn) ok0 ok0 ?_
    walk_at "pb"
    refine b_ndec (fun h => absurd rfl h) (fun _ => ?_)
    walk_at "pb"
    refine i_tyL (SqL.of hg) ?_
    walk_at "pb"
    have l0 := g0.len
    refine i_app hg (by rw [List.length_map]; walk_at "sz") fun H8 k8 hg8 => ?_
    replace w := w.keepG k8 dg
    walk_at "pb"
    refine i_itR1 (by decide) (by decide) ?_
    refine r_forR (fun i σ' H' => ∃ (nl : Addr) (ns : List Str) (c : Int) (n : Nat) (z7 z8 z9 z10 z11 z12 z13 z14 z15 : Option V), σ' = [some (.ref a), some (.ref S), some (.ref pl), some (.ref nl), some (.int c), some (.ref gl), some (.ref R), z7, z8, z9, z10, z11, z12, z13, z14, z15] ∧ W5 K S l R rn nl pl n ns ns pool c H' ∧ Gd ns pool (7 + i) ∧ n ≤ 16 + 3 * i) ⟨nl, ns0, 0, 16, _, _, _, _, _, _, _, _, _, rfl, w, g0, by omega⟩ ?_ ?_
    · rintro i σ' H' hi ⟨nl, ns, c, n, z7, z8, z9, z10, z11, z12, z13, z14, z15, rfl, w, g, hn⟩
      have hi26 : i < 26 := hi
      clear hg hg8 k8
      walk_at "pb"
      refine ⟨S, l, n, 6, rfl, by decide, by decide +kernel, by omega, w.hS, fun H9 kind k9 hS h0 h6 => ?_⟩
      replace w := w.draws k9 hS
      walk_at "pb"
      have dpl' := w.d3
      refine ⟨S, l, pl, n + 1, _, rfl, by omega, w.hS, SqL.of w.hp, (by simp at dpl' ⊢; exact ⟨dpl'.1, dpl'.2.1⟩), (by intro e; rw [List.map_eq_nil_iff] at e; rw [e] at plen; simp at plen), by rw [List.length_map]; omega, fun H10 x k10 hS hx => ?_⟩
      obtain ⟨z, hzp, rfl⟩ := List.mem_map.mp hx
      replace w := w.draws k10 hS
      walk_at "pb"
      refine i_tupR (by walk_at "sz") fun tp H11 _ k11 htp => ?_
      replace w := w.keep0 k11
      refine i_gtup (SqT.of htp) rfl ?_
      walk_at "pb"
      clear k9 k10 k11 htp
      have glen := g.len
      refine i_cut (fun σ' H' => ∃ (nl : Addr) (ns : List Str) (c : Int) (n' : Nat) (z10 z12 z13 z14 z15 : Option V), σ' = [some (.ref a), some (.ref S), some (.ref pl), some (.ref nl), some (.int c), some (.ref gl), some (.ref R), some (.int (0 + i)), some (.int kind), some (.str z), z10, some .non, z12, z13, z14, z15] ∧ W5 K S l R rn nl pl n' ns ns pool c H' ∧ Gd ns pool (7 + (i + 1)) ∧ n' ≤ n + 3) ?_ ?_
      · walk_at "pb"
        refine i_ninS (SqL.of w.hn) ?_
        walk_at "pb"
        refine b_ndec (fun hz => ?_) (fun hz => ?_)
        · walk_at "pb"
          refine i_lenL (SqL.of w.hn) ?_
          rw [List.length_map]
          walk_at "pb"
          refine ⟨S, l, n + 2, _, rfl, by omega, small_pow (by omega) (by omega), by omega, w.hS, fun H12 at' k12 hS h0 h1 => ?_⟩
          obtain ⟨at', rfl⟩ : ∃ r' : Nat, at' = r' := ⟨at'.toNat, by omega⟩
          replace w := w.draws k12 hS
          walk_at "pb"
          refine i_tyL (SqL.of w.hn) ?_
          walk_at "pb"
          refine i_ins w.hn (by omega) (by omega) (by rw [List.length_map]; omega) fun H13 k13 hn13 => ?_
          replace w := w.mutN (ms' := insS ns at' z) k13 (by rw [hn13, insS, Int.toNat_natCast, List.map_append, List.map_append, List.map_take, List.map_drop]; rfl)
          walk_at "pb"
          obtain ⟨dx, hob⟩ := w.hR.ob
          refine i_methR hob rfl ?_
          walk_at "pb"
          refine ⟨R, rn, ns, c, z, at', rfl, w.hR, hz, by omega, by omega, fun H14 k14 rv => ?_⟩
          walk_at "pb"
          exact ⟨nl, _, c, _, _, _, _, _, _, rfl, w.rival k14 rv, (g.ins hz hzp).mono (by omega), by omega⟩
        · walk_at "pb"
          refine b_eqI (fun _ => ?_) (fun _ => ?_)
          · walk_at "pb"
            refine i_itL (SqL.of w.hn) ?_
            refine r_lcL (SqL.of w.hn) fun Dl H12 hD k12 hD12 => ?_
            refine ⟨fun j H' => Keep [] H11 H' ∧ H' Dl = some (.lst (((ns.take j).filter fun x => x != z).map V.str)), ⟨k12, hD12⟩, fun j H' _ h => SqL.of (h.1.at_ _ _ (by simp) w.hn), ?_, ?_⟩
            · rintro j x H' hx ⟨k, hd⟩
              rw [List.getElem?_map] at hx
              obtain ⟨y, hy, rfl⟩ := Option.map_eq_some_iff.mp hx
              have hj : j < ns.length := (List.getElem?_eq_some_iff.mp hy).1
              have et : ns.take (j + 1) = ns.take j ++ [y] := by
                rw [List.take_add_one, hy]; rfl
              walk_at "pb"
              refine ⟨rfl, ?_⟩
              walk_at "pb"
              refine b_ndec (fun hne => ?_) (fun he => ?_)
              · walk_at "pb"
                have hne' : y ≠ z := fun e => hne (by rw [e])
                refine i_put hd ?_ fun H13 k13 hd13 => ⟨k.fresh1 hD k13, ?_⟩
                · have := List.length_filter_le (fun x => x != z) (ns.take j)
                  rw [List.length_take] at this
                  rw [List.length_map]
                  exact sz_lt (by omega)
                · rw [hd13, et, List.filter_append, List.map_append]
                  simp [hne']
              · have he' : y = z := V.str.inj he
                refine ⟨k, ?_⟩
                rw [hd, et, List.filter_append, he']
                simp
            · rintro H12 ⟨k12, hD12⟩
              rw [List.length_map, List.take_of_length_le (Nat.le_refl _), ← er_filter g.nd z] at hD12
              have w2 := W5.newN w (w.keep0 k12) hD hD12
              walk_at "pb"
              obtain ⟨dx, hob⟩ := w2.hR.ob
              refine i_methR hob rfl ?_
              walk_at "pb"
              refine ⟨R, rn, ns, c, z, rfl, w2.hR, by simpa using hz, by omega, fun H14 k14 rv => ?_⟩
              walk_at "pb"
              exact ⟨Dl, _, c, _, _, _, _, _, _, rfl, w2.rival k14 rv, g.er.mono (by omega), by omega⟩
          · have hz' : z ∈ ns := by simpa using hz
            walk_at "pb"
            refine b_eqI (fun h1 => ?_) (fun h1 => ?_)
            · walk_at "pb"
              refine i_lenL (SqL.of w.hn) ?_
              rw [List.length_map]
              walk_at "pb"
              refine b_dec (fun h2 => ?_) (fun h2 => ?_)
              · walk_at "pb"
                refine i_lenL (SqL.of w.hn) ?_
                rw [List.length_map]
                walk_at "pb"
                refine ⟨S, l, n + 2, _, rfl, by omega, small_pow (by omega) (by omega), by omega, w.hS, fun H12 t k12 hS h0 h1 => ?_⟩
                obtain ⟨t, rfl⟩ : ∃ r' : Nat, t = r' := ⟨t.toNat, by omega⟩
                replace w := w.draws k12 hS
                walk_at "pb"
                refine i_slL (SqL.of w.hn) fun p1 H13 hp1 k13 h13 => ?_
                rw [cut_to _ _ (by rw [List.length_map]; omega), ← List.map_take] at h13
                replace w := w.keep0 k13
                walk_at "pb"
                refine i_ixL (SqL.of w.hn) (v := .str (ns.getD (t + 1) default)) ?_ ?_
                · rw [show (t : Int) + 1 = ((t + 1 : Nat) : Int) by omega]
                  exact L2.atI_nat (by rw [List.getElem?_map, List.getD_eq_getElem?_getD, List.getElem?_eq_getElem (by omega : t + 1 < ns.length)]; rfl)
                walk_at "pb"
                refine i_ixL (SqL.of w.hn) (v := .str (ns.getD t default)) ?_ ?_
                · exact L2.atI_nat (by rw [List.getElem?_map, List.getD_eq_getElem?_getD, List.getElem?_eq_getElem (by omega : t < ns.length)]; rfl)
                walk_at "pb"
                refine i_lstR (by walk_at "sz") fun p2 H14 hp2 k14 h14 => ?_
                replace w := w.keep0 k14
                replace h13 := k14.at_ _ _ (by simp) h13
                walk_at "pb"
                refine i_cat h13 h14 (by simp; omega) fun p3 H15 hp3 k15 h15 => ?_
                replace w := w.keep0 k15
                walk_at "pb"
                refine i_slL (SqL.of w.hn) fun p4 H16 hp4 k16 h16 => ?_
                rw [show (t : Int) + 2 = ((t + 2 : Nat) : Int) by omega, cut_from _ _ (by rw [List.length_map]; omega), ← List.map_drop] at h16
                replace w := w.keep0 k16
                replace h15 := k16.at_ _ _ (by simp) h15
                walk_at "pb"
                refine i_cat h15 h16 (by simp; omega) fun p5 H17 hp5 k17 h17 => ?_
                have w2 := W5.newN (ms' := swpS ns t) w (w.keep0 k17) hp5 (by rw [h17, swpS_eq (by omega)]; simp only [List.map_append, List.map_cons, List.map_nil])
                walk_at "pb"
                obtain ⟨dx, hob⟩ := w2.hR.ob
                refine i_methR hob rfl ?_
                walk_at "pb"
                refine ⟨R, rn, ns, c, t, rfl, w2.hR, by omega, by omega, fun H18 k18 rv => ?_⟩
                walk_at "pb"
                exact ⟨p5, _, _, _, _, _, _, _, _, rfl, w2.rival k18 rv, (g.perm (swpS_perm (by omega))).mono (by omega), by omega⟩
              · walk_at "pb"
                refine b_eqI (fun _ => ?_) (fun _ => ?_)
                · walk_at "pb"
                  refine i_tyL (SqL.of w.hn) ?_
                  walk_at "pb"
                  refine i_indexS (SqL.of w.hn) hz' ?_
                  walk_at "pb"
                  obtain ⟨dx, hob⟩ := w.hR.ob
                  refine i_methR hob rfl ?_
                  walk_at "pb"
                  refine ⟨R, rn, ns, ns, c, z, .non, rfl, w.hR, hz', by omega, .inl ⟨rfl, rfl⟩, fun H14 k14 rv => ?_⟩
                  walk_at "pb"
                  exact ⟨nl, ns, _, _, _, _, _, _, _, rfl, w.rival k14 rv, g.mono (by omega), by omega⟩
                · walk_at "pb"
                  refine i_tyL (SqL.of w.hn) ?_
                  walk_at "pb"
                  refine i_indexS (SqL.of w.hn) hz' ?_
                  walk_at "pb"
                  have hlt : ns.idxOf z < ns.length := List.idxOf_lt_length_iff.mpr hz'
                  refine ⟨S, l, n + 2, _, rfl, by omega, small_pow (by omega) (by omega), by omega, w.hS, fun H12 t k12 hS h0 h1 => ?_⟩
                  obtain ⟨t, rfl⟩ : ∃ r' : Nat, t = r' := ⟨t.toNat, by omega⟩
                  replace w := w.draws k12 hS
                  walk_at "pb"
                  refine i_slL (SqL.of w.hn) fun p1 H13 hp1 k13 h13 => ?_
                  rw [cut_to _ _ (by rw [List.length_map]; omega), ← List.map_take] at h13
                  replace w := w.keep0 k13
                  walk_at "pb"
                  refine i_lstR (by walk_at "sz") fun p2 H14 hp2 k14 h14 => ?_
                  replace w := w.keep0 k14
                  replace h13 := k14.at_ _ _ (by simp) h13
                  walk_at "pb"
                  refine i_cat h13 h14 (by simp; omega) fun p3 H15 hp3 k15 h15 => ?_
                  replace w := w.keep0 k15
                  walk_at "pb"
                  refine i_slL (SqL.of w.hn) fun p4 H16 hp4 k16 h16 => ?_
                  rw [cut_mid _ _ _ (by omega) (by rw [List.length_map]; omega), ← List.map_drop, ← List.map_take] at h16
                  replace w := w.keep0 k16
                  replace h15 := k16.at_ _ _ (by simp) h15
                  walk_at "pb"
                  refine i_cat h15 h16 (by simp; omega) fun p5 H17 hp5 k17 h17 => ?_
                  replace w := w.keep0 k17
                  walk_at "pb"
                  refine i_slL (SqL.of w.hn) fun p6 H18 hp6 k18 h18 => ?_
                  rw [show ((ns.idxOf z : Nat) : Int) + 1 = ((ns.idxOf z + 1 : Nat) : Int) by omega, cut_from _ _ (by rw [List.length_map]; omega), ← List.map_drop] at h18
                  replace w := w.keep0 k18
                  replace h17 := k18.at_ _ _ (by simp) h17
                  walk_at "pb"
                  refine i_cat h17 h18 (by simp; omega) fun p7 H19 hp7 k19 h19 => ?_
                  have w2 := W5.newN (ms' := movS ns z t) w (w.keep0 k19) hp7 (by rw [h19, movS_eq hz' (by omega)]; simp only [List.map_append, List.map_cons, List.map_nil])
                  walk_at "pb"
                  obtain ⟨dx, hob⟩ := w2.hR.ob
                  refine i_methR hob rfl ?_
                  walk_at "pb"
                  refine ⟨R, rn, ns, _, c, z, _, rfl, w2.hR, hz', by omega, .inr ⟨t, rfl, by omega, rfl⟩, fun H20 k20 rv => ?_⟩
                  walk_at "pb"
                  exact ⟨p7, _, _, _, _, _, _, _, _, rfl, w2.rival k20 rv, (g.perm (movS_perm hz' t)).mono (by omega), by omega⟩
            · walk_at "pb"
              refine b_eqI (fun _ => ?_) (fun _ => ?_)
              · walk_at "pb"
                refine i_tyL (SqL.of w.hn) ?_
                walk_at "pb"
                refine i_indexS (SqL.of w.hn) hz' ?_
                walk_at "pb"
                obtain ⟨dx, hob⟩ := w.hR.ob
                refine i_methR hob rfl ?_
                walk_at "pb"
                refine ⟨R, rn, ns, ns, c, z, .non, rfl, w.hR, hz', by omega, .inl ⟨rfl, rfl⟩, fun H14 k14 rv => ?_⟩
                walk_at "pb"
                exact ⟨nl, ns, _, _, _, _, _, _, _, rfl, w.rival k14 rv, g.mono (by omega), by omega⟩
              · walk_at "pb"
                refine i_tyL (SqL.of w.hn) ?_
                walk_at "pb"
                refine i_indexS (SqL.of w.hn) hz' ?_
                walk_at "pb"
                have hlt : ns.idxOf z < ns.length := List.idxOf_lt_length_iff.mpr hz'
                refine ⟨S, l, n + 2, _, rfl, by omega, small_pow (by omega) (by omega), by omega, w.hS, fun H12 t k12 hS h0 h1 => ?_⟩
                obtain ⟨t, rfl⟩ : ∃ r' : Nat, t = r' := ⟨t.toNat, by omega⟩
                replace w := w.draws k12 hS
                walk_at "pb"
                refine i_slL (SqL.of w.hn) fun p1 H13 hp1 k13 h13 => ?_
                rw [cut_to _ _ (by rw [List.length_map]; omega), ← List.map_take] at h13
                replace w := w.keep0 k13
                walk_at "pb"
                refine i_lstR (by walk_at "sz") fun p2 H14 hp2 k14 h14 => ?_
                replace w := w.keep0 k14
                replace h13 := k14.at_ _ _ (by simp) h13
                walk_at "pb"
                refine i_cat h13 h14 (by simp; omega) fun p3 H15 hp3 k15 h15 => ?_
                replace w := w.keep0 k15
                walk_at "pb"
                refine i_slL (SqL.of w.hn) fun p4 H16 hp4 k16 h16 => ?_
                rw [cut_mid _ _ _ (by omega) (by rw [List.length_map]; omega), ← List.map_drop, ← List.map_take] at h16
                replace w := w.keep0 k16
                replace h15 := k16.at_ _ _ (by simp) h15
                walk_at "pb"
                refine i_cat h15 h16 (by simp; omega) fun p5 H17 hp5 k17 h17 => ?_
                replace w := w.keep0 k17
                walk_at "pb"
                refine i_slL (SqL.of w.hn) fun p6 H18 hp6 k18 h18 => ?_
                rw [show ((ns.idxOf z : Nat) : Int) + 1 = ((ns.idxOf z + 1 : Nat) : Int) by omega, cut_from _ _ (by rw [List.length_map]; omega), ← List.map_drop] at h18
                replace w := w.keep0 k18
                replace h17 := k18.at_ _ _ (by simp) h17
                walk_at "pb"
                refine i_cat h17 h18 (by simp; omega) fun p7 H19 hp7 k19 h19 => ?_
                have w2 := W5.newN (ms' := movS ns z t) w (w.keep0 k19) hp7 (by rw [h19, movS_eq hz' (by omega)]; simp only [List.map_append, List.map_cons, List.map_nil])
                walk_at "pb"
                obtain ⟨dx, hob⟩ := w2.hR.ob
                refine i_methR hob rfl ?_
                walk_at "pb"
                refine ⟨R, rn, ns, _, c, z, _, rfl, w2.hR, hz', by omega, .inr ⟨t, rfl, by omega, rfl⟩, fun H20 k20 rv => ?_⟩
                walk_at "pb"
                exact ⟨p7, _, _, _, _, _, _, _, _, rfl, w2.rival k20 rv, (g.perm (movS_perm hz' t)).mono (by omega), by omega⟩
      · rintro σ' H12 ⟨nl, ns, c, n', z10, z12, z13, z14, z15, rfl, w, g, hn'⟩
        have gl' := g.len
        walk_at "pb"
        obtain ⟨dx, hob⟩ := w.hR.ob
        refine i_propR hob ⟨R, rn, ns, c, rfl, w.hR, fun p1 H13 hp1 k13 h13 => ?_⟩
        replace w := w.keep0 k13
        replace hob := k13.at_ _ _ (by simp) hob
        walk_at "pb"
        refine ⟨_, _, rfl, Sm.lstS h13 w.hn (strs_sc ns) (by rw [List.length_map]; omega), fun H14 k14 => ?_⟩
        replace w := w.keep0 k14
        replace hob := k14.at_ _ _ (by simp) hob
        walk_at "pb"
        refine i_fldR hob T.cls_Rival T.noat_Rival_cost rfl ?_
        walk_at "pb"
        refine ⟨_, _, rfl, .int c, fun H15 k15 => ?_⟩
        replace w := w.keep0 k15
        replace hob := k15.at_ _ _ (by simp) hob
        walk_at "pb"
        refine i_propR hob ⟨R, rn, ns, c, rfl, w.hR, fun p2 H16 hp2 k16 h16 => ?_⟩
        refine i_tyL (SqL.of h16) ?_
        walk_at "pb"
        refine i_app h16 (by rw [List.length_map]; walk_at "sz") fun H17 k17 _ => ?_
        replace k17 := k16.fresh1 hp2 k17
        replace w := w.keep0 k17
        replace hob := k17.at_ _ _ (by simp) hob
        walk_at "pb"
        refine ⟨_, rfl, i_own1 hob ⟨R, rn, ns, c, rfl, w.hR, ⟨_, rfl, by omega, by omega, ?_⟩⟩⟩
        walk_at "pb"
        refine i_lenL (SqL.of w.hn) ?_
        rw [List.length_map]
        walk_at "pb"
        refine i_itL (SqL.of w.hp) ?_
        refine r_lcL (SqL.of w.hp) fun Dl H18 hD k18 hD18 => ?_
        refine ⟨fun j H' => Keep [] H17 H' ∧ H' Dl = some (.lst ((List.replicate j true).map V.bl)), ⟨k18, hD18⟩, fun j H' _ h => SqL.of (h.1.at_ _ _ (by simp) w.hp), ?_, ?_⟩
        · rintro j x H' hx ⟨k, hd⟩
          rw [List.getElem?_map] at hx
          obtain ⟨y, hy, rfl⟩ := Option.map_eq_some_iff.mp hx
          have hj : j < pool.length := (List.getElem?_eq_some_iff.mp hy).1
          have w' := w.keep0 k
          walk_at "pb"
          refine ⟨rfl, ?_⟩
          walk_at "pb"
          refine ⟨R, dx, _, rfl, k.at_ _ _ (by simp) hob, R, rn, ns, c, y, rfl, w'.hR, _, rfl, ?_⟩
          rw [if_neg (by simp)]
          walk_at "pb"
          refine i_inS (SqL.of w'.hn) ?_
          walk_at "pb"
          rw [decide_eq_true rfl]
          refine i_put hd (by rw [List.length_map, List.length_replicate]; exact sz_lt (by omega)) fun H19 k19 hd19 => ⟨k.fresh1 hD k19, ?_⟩
          rw [hd19, List.replicate_succ', List.map_append]
          rfl
        · rintro H18 ⟨k18, hD18⟩
          walk_at "pb"
          refine i_all (SqL.of hD18) ?_
          rw [all_rep]
          walk_at "pb"
          exact ⟨nl, ns, c, n', _, _, _, _, _, _, _, _, _, rfl, w.keep0 k18, g, by omega⟩
    · rintro σ' H9 ⟨nl, ns, c, n, z7, z8, z9, z10, z11, z12, z13, z14, z15, rfl, w, g, hn⟩
      have gl' := g.len
      walk_at "pb"
      obtain ⟨dx, hob⟩ := w.hR.ob
      refine i_propR hob ⟨R, rn, ns, c, rfl, w.hR, fun p1 H13 hp1 k13 h13 => ?_⟩
      replace w := w.keep0 k13
      walk_at "pb"
      refine ⟨_, _, rfl, Sm.lstS h13 w.hn (strs_sc ns) (by rw [List.length_map]; omega), fun H14 k14 => ?_⟩
      exact q _
end Lw
namespace Lw
open PySem PySem.Spec PyProof.Rows L2 PB
abbrev R : PySem.W.OpenRow := PySem.W.OpenLaw.row PySem.Challenge.rw_pairahead_k52_rivals_lists_and_costs
abbrev hk : PySem.W.Hook := PB.hookQ 6 fn bs
def ob (s : PySem.W.SharedT) : PB.AlQ := PB.obsQ 6 fn bs (HandSHeadRun.getT s)
theorem ob_eq (s : PySem.W.SharedT) : ob s = hk.obs s.abs := PB.obsQ_eq (HandSHeadRun.getT_eq s)
def loose : List PySem.Str := (["PairError", "NoCase", "CaseThere", "InvalidMove", "Rival", "place_of", "_law_draw", "_law_start", "_law_pick", "_law_mixed", "_law_same", "_law_p_names"] : List PySem.Str)
theorem run (w : World) : HandSHeadRun.RunEq R (PySem.W.view R.prog [15]) hk ob 3000 loose w := by
  intro os
  kernel_rfl
end Lw
open PySem PySem.W PySem.Calls PyProof.Rows
set_option maxHeartbeats 0 in
theorem PySem.Challenge.cw_pairahead_k52_rivals_lists_and_costs_holds : PySem.Challenge.rw_pairahead_k52_rivals_lists_and_costs.Holds := by
  w_on; o_law
  refine HandSHeadRun.head_any (r := OpenLaw.row PySem.Challenge.rw_pairahead_k52_rivals_lists_and_costs) (q := view (OpenLaw.row PySem.Challenge.rw_pairahead_k52_rivals_lists_and_costs).prog [15]) (H := Lw.hk) (ob := Lw.ob) (M := 3000) (loose := Lw.loose) (d := HandSHeadRun.topDef (OpenLaw.row PySem.Challenge.rw_pairahead_k52_rivals_lists_and_costs).prog 15) (kwd := []) Lw.ob_eq
    (by kernel_rfl) (fun s => by kernel_rfl) Lw.run (by kernel_rfl) (by kernel_rfl) (by kernel_rfl) (by rfl) (by first | assumption | decide +kernel) (by decide +kernel) ⟨rfl, rfl, rfl, rfl, rfl, by decide +kernel⟩ ?hw ?hc
  case hw => w_witness2
  case hc =>
    refine L2.walk_ofE (l := PySem.Challenge.rw_pairahead_k52_rivals_lists_and_costs) (n := 63) (k := 9) (x := "_law_script") (CX := L2.CX0) rfl (by decide) (by kernel_rfl) ⟨rfl, by decide, by decide⟩ ?F (fun _ _ _ _ z => z)
    intro w mg fa h Y G hmg0
    obtain ⟨K, KX, c⟩ := Y
    have hmg : mg ("law" : PySem.Str) = some (.ref fa) := by
      have e : (HandSHeadRun.topDef (OpenLaw.row PySem.Challenge.rw_pairahead_k52_rivals_lists_and_costs).prog 15).name = ("law" : PySem.Str) := by kernel_rfl
      rw [← e]
      exact hmg0
    have T := Lw.tx_of KX G c
    have e := hmg.symm.trans T.g_law
    cases e
    obtain ⟨fd, F⟩ := T.d_law
    have b := L2.FunD.bindsA (ps := ["_law_script"]) F fun _ _ _ _ _ _ us hl => match us, hl with | [_], _ => rfl
    exact ⟨K, fd, Lw.spLaw K, KX, fun s v => b s [v] rfl, fun H a ns hl _ hS => ⟨a, ns, rfl, hS, hl, fun _ => rfl⟩, fun base _ _ => Lw.ok_law T F⟩
