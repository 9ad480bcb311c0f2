import PyProof.Rows.All
import Wide.All
import OpenK.AllK
import Wide.FinOn
import KE.KStateDown
import KE.KeyNested
import KE.KDictZip
import Lean
import HandS.ForMost
import HandS.ForExc
import HandS.More
import HandS.Wide
import HandS.WideMore
import HandS.Flow
import HandS.Style
import HandS.IsInst
import HandS.TryMany
import HandS.TupLen
import HandS.TryElse
import HandS.ExcBuiltin
import HandS.ExcSuper
import HandS.ExcField
import HandS.ExcIs
import HandS.RaiseMore
import HandS.SuiteRaise
import HandS.EndBits
import HandS.Property
import HandS.MakeKw
import HandS.MakeKwOnly
import HandS.FStr
import HandS.Zip
import HandS.Conv
import HandS.Deep
import HandS.OwnEq
import HandS.Strs
import HandS.Small
import HandS.TupAny
import HandS.TupLe
import HandS.ClsMeth
import HandS.CallRecv
import HandS.Codes
import HandS.Evl
import HandS.Steps
import HandS.Defaults
import HandS.Head0
import HandS.Head1
import HandS.Head2
import HandS.HeadEnd
import HandS.HeadHook1
import HandS.HeadHook2
import HandS.ReplaceLit
import KE.GoesRaise
import HandS.DictComp
import HandS.OwnIter
import HandS.SortInts
import HandS.ExcInit
import KE.KExcSuper
import PySem.Challenge.RW_pairahead_k53_rivals_refused
set_option Elab.async false
set_option linter.all false
set_option maxRecDepth 100000
set_option maxHeartbeats 4000000
namespace PB
open PySem PySem.Spec PyProof.Rows L2
def OkF (P : Program) (w : World) (K : PySem.W.Frag) (mg : Str → Option Value) (base : Heap) (CX : CXT) (k : Nat) (x : Str) (ps : List Str) (dvs : List V) (sp : Sp) : Prop :=
  ∃ (fd : FuncData) (ds : List Value), FnOk P w K mg base CX k (He.ga K x) fd ps sp ∧ mg x = some (.ref (He.ga K x)) ∧ PySem.W.keepIn K (.ref (He.ga K x)) = true ∧ Binds K fd ps ds ∧ Vals dvs ds
def OkM (P : Program) (w : World) (K : PySem.W.Frag) (mg : Str → Option Value) (base : Heap) (CX : CXT) (k : Nat) (c m : Str) (ps : List Str) (dvs : List V) (sp : Sp) : Prop :=
  ∃ (fd : FuncData) (ds : List Value), FnOk P w K mg base CX k (He.ma K (He.ga K c) m) fd ps sp ∧ Cls K (He.ga K c) ∧ Meth K (He.ga K c) m (He.ma K (He.ga K c) m) ∧ Binds K fd ps ds ∧ Vals dvs ds
/-- C(..): the class's maker and its __init__ -/
def OkC (P : Program) (w : World) (K : PySem.W.Frag) (mg : Str → Option Value) (base : Heap) (CX : CXT) (k : Nat) (c : Str) (ps : List Str) (dvs : List V) (sp : Sp) : Prop :=
  ∃ (fd : FuncData) (ds : List Value), FnOk P w K mg base CX k (He.ma K (He.ga K c) "__init__") fd ps sp ∧ mg c = some (.ref (He.ga K c)) ∧ Mk K (He.ga K c) (He.ma K (He.ga K c) "__init__") ∧ Binds K fd ps ds ∧ Vals dvs ds
abbrev W0 : WX := fun _ _ _ _ => False
def tCallG (sp : Sp) (dvs : List V) (W : WX) (t : TA) : TE := fun σ H Q => t σ H fun vs H1 => sp (vs ++ dvs) H1 Q (WE W σ)
def tMethG (C : Addr) (m : Str) (sp : Sp) (dvs : List V) (W : WX) (ta : TE) (t : TA) : TE := fun σ H Q => ta σ H fun x H1 => ∃ a dx fs, x = .ref a ∧ H1 a = some (.ins C dx fs) ∧ fs.lookup m = none ∧
  t σ H1 fun vs H2 => sp (x :: (vs ++ dvs)) H2 Q (WE W σ)
def tMakeG (C : Addr) (sp : Sp) (dvs : List V) (W : WX) (t : TA) : TE := fun σ H Q => t σ H fun vs H1 => ∀ x dx, H1 x = none → H1 dx = none → dx ≠ x →
  sp (.ref x :: (vs ++ dvs)) (upd (upd H1 dx (.own x)) x (.ins C dx [])) (fun v H2 => v = .non ∧ Q (.ref x) H2) (WE W σ)
section
variable {X : Cx} {CX : CXT} {k : Nat} {f C : Addr} {fd : FuncData} {x c m : Str} {ps : List Str} {dvs : List V} {ds : List Value} {sp : Sp} {W : WX} {E : XK} {p pos apos : Pos} {e o : Expr} {es : List Expr} {t : TA} {ta : TE}
theorem pas0 : ∀ σ, PassesAt CX0 X σ (WE W0 σ) := fun _ _ _ _ _ _ _ h => h.elim
theorem pasT (tk : Takes X W) : ∀ σ, PassesAt (L2.CX X.prog X.w) X σ (WE W σ) := fun σ => passAt tk σ
theorem OkF.mono {P w K mg base j} (O : OkF P w K mg base CX j x ps dvs sp) (h : j ≤ k) : OkF P w K mg base CX k x ps dvs sp :=
  let ⟨fd, ds, F, a, b, c, d⟩ := O; ⟨fd, ds, F.mono h, a, b, c, d⟩
theorem OkM.mono {P w K mg base j} (O : OkM P w K mg base CX j c m ps dvs sp) (h : j ≤ k) : OkM P w K mg base CX k c m ps dvs sp :=
  let ⟨fd, ds, F, a, b, c, d⟩ := O; ⟨fd, ds, F.mono h, a, b, c, d⟩
/-- the callee runs, somewhere below this body -/
theorem run_fnA {A' : Around} (hA : A'.frames = X.A.frames) {pins : List (Addr × Obj)} {σ : L2.St} {H : Hp} {s : Shared} {Q : VK} {us : List Value} {vs : List V} (F : FnOk X.prog X.w X.K X.mg X.base CX k f fd ps sp) (hr : Room k A') (hb : Binds X.K fd ps ds) (hd : Vals dvs ds) (hx : PassesAt CX X σ E)
    (I : Inv X pins σ H s) (r : Vals vs us) (h : sp (vs ++ dvs) H Q E) : wpAny (model X.prog X.w) A' (call (.ref f) us) (EP X pins σ Q) X.xe s := by
  have r2 : Vals (vs ++ dvs) (us ++ ds) := r.append hd
  have hl : (us ++ ds).length = ps.length := r2.length.symm.trans (F.len _ _ _ _ h)
  have e0 := I.env0
  have e1 : Env0 X.prog X.w X.K X.mg X.base A' X.stack s H := ⟨hA.trans e0.frames, e0.mod, e0.bs, e0.bsz, e0.funs, e0.frf, e0.hok, e0.bare⟩
  have run := F.run A' X.stack s H ⟨us, []⟩ (us ++ ds) (vs ++ dvs) Q E hr e1 (hb s us I.kIn hl) r2 h
  refine wpAny_call (codeAny_mono run fun r s' hq => ?_)
  match r, hq with
  | .error e, hq => exact hx pins H s e s' I hq
  | .ok (.ret u), hq => exact I.after hq
theorem run_makeA {pins : List (Addr × Obj)} {σ : L2.St} {H : Hp} {s : Shared} {Q : VK} {us : List Value} {vs : List V} (M : Mk X.K C f) (F : FnOk X.prog X.w X.K X.mg X.base CX k f fd ps sp) (hr : Room (k + 1) X.A) (hb : Binds X.K fd ps ds) (hd : Vals dvs ds)
    (hx : PassesAt CX X σ E) (I : Inv X pins σ H s) (r : Vals vs us)
    (h : ∀ x dx, H x = none → H dx = none → dx ≠ x → sp (.ref x :: (vs ++ dvs)) (upd (upd H dx (.own x)) x (.ins C dx [])) (fun v H2 => v = .non ∧ Q (.ref x) H2) E) :
    wpAny (model X.prog X.w) X.A (call (.ref C) us) (EP X pins σ Q) X.xe s := by
  have fresh : ∀ b, s.heap.objs.size ≤ b → H b = none := fun b hb => I.hok.fresh hb
  have hq := h (s.heap.objs.size + 1) s.heap.objs.size (fresh _ (Nat.le_succ _)) (fresh _ (Nat.le_refl _)) (Nat.ne_of_lt (Nat.lt_succ_self _))
  have I2 := Inv.made (C := C) I
  have r2 : Vals (V.ref (s.heap.objs.size + 1) :: (vs ++ dvs)) (Value.ref (s.heap.objs.size + 1) :: (us ++ ds)) := .cons rfl (r.append hd)
  have hl : (Value.ref (s.heap.objs.size + 1) :: us ++ ds).length = ps.length := r2.length.symm.trans (F.len _ _ _ _ hq)
  have run := F.run _ X.stack _ _ ⟨Value.ref (s.heap.objs.size + 1) :: us, []⟩ (Value.ref (s.heap.objs.size + 1) :: (us ++ ds)) _ _ E (hr.make C us []) (I2.env0.make C us []) (hb _ (Value.ref (s.heap.objs.size + 1) :: us) I2.kIn hl) r2 hq
  refine wpAny_call (make_map (f := f) I.kIn M.makes M.init (beq_iff_eq.mp M.fn) (codeAny_mono run fun r s' hq' => ?_))
  match r, hq' with
  | .error e, hq' => exact hx pins _ _ e s' I2 hq'
  | .ok (.ret u), hq' =>
    obtain ⟨v, H', I3, rv, ev, q3⟩ := I2.after hq'
    subst ev
    exact ⟨rv, ⟨V.ref (s.heap.objs.size + 1), H', I3, rfl, q3⟩⟩
theorem pe_callF (O : OkF X.prog X.w X.K X.mg X.base CX k x ps dvs sp) (hr : Room k X.A) (hx : ∀ σ, PassesAt CX X σ (WE W σ)) (ha : PA X (e :: es) t) (hg : Gl X x := by rfl)
    (hdb : (x == ("__debug__" : Str)) = false := by decide) (he : starEach (e :: es) X.env = (false, eval e X.env) :: starEach es X.env := by rfl) (hpl : (backTo pos (starEach es X.env)).any (·.1) = false := by rfl) :
    PE X (.Call (.Name x p) (e :: es) [] pos) (tCallG sp dvs W t) := by
  obtain ⟨fd, ds, F, hm, hk, hb, hd⟩ := O
  refine ⟨fun pins s σ H Q I h => wpAny_Call_Name_kw (ld_glob I hg hm ?_ hdb)⟩
  have ev := thn (ha.run pos pins s σ H _ I h) fun us s1 ⟨vs, H1, I1, r, q⟩ => (⟨I1.kIn, run_fnA rfl F hr hb hd (hx σ) I1 r q⟩ : _ ∧ _)
  exact PySem.W.callWith_K (h₀ := X.base) I.ok.mod.kin hk ev he hpl
theorem pe_methF {pl : Sem Bool} (O : OkM X.prog X.w X.K X.mg X.base CX k c m ps dvs sp) (hr : Room k X.A) (hx : ∀ σ, PassesAt CX X σ (WE W σ)) (he : PE X o ta) (ha : PA X (e :: es) t)
    (hst : starEach (e :: es) X.env = (false, eval e X.env) :: starEach es X.env := by rfl) (hpl : (backTo pos (starEach es X.env)).any (·.1) = false := by rfl)
    (ht : eval (.Call (.Attribute o m apos) (e :: es) [] pos) X.env = (do
      let ov ← eval o X.env
      standAt apos.atName
      let (f, first) ← holding [ov] (getMethod ov m pl)
      callWith pos f first (backTo pos (starEach (e :: es) X.env)) (backToKw pos (keywordEach [] X.env))) := by rfl) :
    PE X (.Call (.Attribute o m apos) (e :: es) [] pos) (tMethG (He.ga X.K c) m sp dvs W ta t) := by
  obtain ⟨fd, ds, F, hc, hm, hb, hd⟩ := O
  refine ⟨fun pins s σ H Q I h => PySem.W.methodCall_KW (pl := pl) (thn (he.run pins s σ H _ I h) fun u s1 hu => ?_) ht⟩
  obtain ⟨x, H1, I1, rx, a, dx, fs, ex, ea, l, q⟩ := hu
  subst ex
  cases rx
  refine getmeth_ok I1 ea hc hm l ?_
  have ev := thn (ha.run pos pins s1 σ H1 _ I1 q) fun us s2 ⟨vs, H2, I2, r, q2⟩ => (⟨I2.kIn, run_fnA rfl (us := .ref a :: us) (vs := .ref a :: vs) F hr hb hd (hx σ) I2 (.cons rfl r) q2⟩ : _ ∧ _)
  exact PySem.W.callWith_K (first := [.ref a]) (h₀ := X.base) I.ok.mod.kin hm.kp ev hst hpl
theorem pe_makeF (O : OkC X.prog X.w X.K X.mg X.base CX k c ps dvs sp) (hr : Room (k + 1) X.A) (hx : ∀ σ, PassesAt CX X σ (WE W σ)) (ha : PA X (e :: es) t) (hg : Gl X c := by rfl)
    (hdb : (c == ("__debug__" : Str)) = false := by decide) (he : starEach (e :: es) X.env = (false, eval e X.env) :: starEach es X.env := by rfl) (hpl : (backTo pos (starEach es X.env)).any (·.1) = false := by rfl) :
    PE X (.Call (.Name c p) (e :: es) [] pos) (tMakeG (He.ga X.K c) sp dvs W t) := by
  obtain ⟨fd, ds, F, hm, hk, hb, hd⟩ := O
  refine ⟨fun pins s σ H Q I h => wpAny_Call_Name_kw (ld_glob I hg hm ?_ hdb)⟩
  have ev := thn (ha.run pos pins s σ H _ I h) fun us s1 ⟨vs, H1, I1, r, q⟩ => (⟨I1.kIn, run_makeA hk F hr hb hd (hx σ) I1 r q⟩ : _ ∧ _)
  exact PySem.W.callWith_K (h₀ := X.base) I.ok.mod.kin hk.kp ev he hpl
def tOpS (r : L2.St → R2) (ta tb : TE) : TE := fun σ H Q => ta σ H fun x H1 => tb σ H1 fun y H2 => r σ x y H2 Q
def tUnS (r : L2.St → V → Hp → VK → Prop) (ta : TE) : TE := fun σ H Q => ta σ H fun x H1 => r σ x H1 Q
def tCBS (r : L2.St → List V → Hp → VK → Prop) (t : TA) : TE := fun σ H Q => t σ H fun vs H1 => r σ vs H1 Q
variable {a b : Expr} {tb : TE}
end
theorem OpRor {X : Cx} {f : Value → Value → Sem Value} {r r' : R2} (h : OpR X f r) (h' : OpR X f r') : OpR X f (fun x y H Q => r x y H Q ∨ r' x y H Q) :=
  fun pins s σ H x y v u Q I rx ry q => q.elim (fun q => h pins s σ H x y v u Q I rx ry q) fun q => h' pins s σ H x y v u Q I rx ry q
theorem CallRor {X : Cx} {f : Value} {r r' : List V → Hp → VK → Prop} (h : CallR X f r) (h' : CallR X f r') : CallR X f (fun xs H Q => r xs H Q ∨ r' xs H Q) :=
  fun pins s σ H xs us Q I rx q => q.elim (fun q => h pins s σ H xs us Q I rx q) fun q => h' pins s σ H xs us Q I rx q
/-- // by any divisor below 2 ^ 9000 in size, but 0 -/
def CDivG (_ j : Int) : Prop := j ≠ 0 ∧ j.natAbs < 2 ^ 9000
theorem op_fdivG {X : Cx} : OpR X (binaryOp .FloorDiv) (rI CDivG fun i j => .int (i.fdiv j)) := opI fun _ _ _ _ _ _ _ hc q =>
  floordiv_int hc.1 q (.inl (PyProof.noPylong_of_log2 (PySem.Flt.log2_lt_of (by decide) hc.2)))
def Imm : HO → Prop
  | .tup _ => True
  | .frz _ _ => True
  | _ => False
/-- all but what stands at ms is kept; what never changes is kept everywhere -/
structure Keep (ms : List Addr) (H H' : Hp) : Prop where
  at_ : ∀ b o, b ∉ ms → H b = some o → H' b = some o
  imm : ∀ b o, Imm o → H b = some o → H' b = some o
theorem Keep.refl {ms : List Addr} (H : Hp) : Keep ms H H := ⟨fun _ _ _ h => h, fun _ _ _ h => h⟩
theorem Keep.trans {ms : List Addr} {H H1 H2 : Hp} (a : Keep ms H H1) (b : Keep ms H1 H2) : Keep ms H H2 := ⟨fun c o n h => b.at_ c o n (a.at_ c o n h), fun c o n h => b.imm c o n (a.imm c o n h)⟩
theorem Keep.mono {ms ns : List Addr} {H H1 : Hp} (a : Keep ms H H1) (h : ∀ m ∈ ms, m ∈ ns) : Keep ns H H1 := ⟨fun c o n q => a.at_ c o (fun z => n (h c z)) q, a.imm⟩
theorem Keep.new {ms : List Addr} {H : Hp} {p : Addr} {o : HO} (h : H p = none) : Keep ms H (upd H p o) :=
  ⟨fun b u _ e => by rw [upd_ne (ne_of_none e h)]; exact e, fun b u _ e => by rw [upd_ne (ne_of_none e h)]; exact e⟩
theorem Keep.set {ms : List Addr} {H : Hp} {p : Addr} {o : HO} (hm : p ∈ ms) (h : ∀ u, H p = some u → ¬ Imm u) : Keep ms H (upd H p o) :=
  ⟨fun b u n e => by rw [upd_ne (show b ≠ p from fun z => n (by rw [z]; exact hm))]; exact e, fun b u i e => by
    by_cases hb : b = p
    · subst hb; exact absurd i (h u e)
    · rw [upd_ne hb]; exact e⟩
theorem Keep.set' {ms : List Addr} {H : Hp} {p : Addr} {o u : HO} (hm : p ∈ ms) (h : H p = some u) (n : ¬ Imm u) : Keep ms H (upd H p o) :=
  Keep.set hm fun v e => by rw [h] at e; cases e; exact n
/-- a change of what the start did not know -/
theorem Keep.mut {ms : List Addr} {H H1 : Hp} {p : Addr} {o : HO} (a : Keep ms H H1) (h : H p = none) : Keep ms H (upd H1 p o) :=
  ⟨fun b u n e => by rw [upd_ne (ne_of_none e h)]; exact a.at_ b u n e, fun b u i e => by rw [upd_ne (ne_of_none e h)]; exact a.imm b u i e⟩
theorem Keep.free {ms : List Addr} {H H' : Hp} (e : Keep ms H H') {l : Addr} (hl : l ∉ ms) (h : H' l = none) : H l = none := by
  cases q : H l with
  | none => rfl
  | some o => rw [e.at_ l o hl q] at h; cases h
theorem Keep.same {ms : List Addr} {H H' : Hp} (e : Keep [] H H') : Keep ms H H' := e.mono (by simp)
theorem Keep.seqT {K : PySem.W.Frag} {ms : List Addr} {H H' : Hp} {a : Addr} {xs : List V} (e : Keep ms H H') (h : SqT K H a xs) : SqT K H' a xs := by
  rcases h with (h | ⟨o, h⟩) | h
  · exact .inl (.inl (e.imm _ _ trivial h))
  · exact .inl (.inr ⟨o, e.imm _ _ trivial h⟩)
  · exact .inr h
theorem Keep.seqL {K : PySem.W.Frag} {ms : List Addr} {H H' : Hp} {a : Addr} {xs : List V} (e : Keep ms H H') (ha : a ∉ ms) (h : SqL K H a xs) : SqL K H' a xs := by
  rcases h with (h | ⟨o, h⟩) | h
  · exact .inl (.inl (e.at_ _ _ ha h))
  · exact .inl (.inr ⟨o, e.imm _ _ trivial h⟩)
  · exact .inr h
end PB
namespace PB
open PySem PySem.Spec PyProof.Rows L2
section
variable {σ : L2.St} {H : Hp} {Q : VK} {QT : Bool → Hp → Prop} {QA : List V → Hp → Prop} {ta tb te tc : TE} {tt tu : TT} {tA : TA} {v x y : V} {i j : Nat} {D : Ends} {t1 t2 : TS} {K : PySem.W.Frag} {a b C dx : Addr} {fs : List (Str × V)} {f : Str} {sp : Sp} {dvs : List V} {E : XK} {W : WX} {g : TG} {gs : TGs} {wi : TI}
def NewT (xs : List V) (H : Hp) (Q : VK) : Prop := xs.length ≤ sizeLine ∧ ∀ p, H p = none → Q (.ref p) (upd H p (.tup xs))
def NewL (xs : List V) (H : Hp) (Q : VK) : Prop := xs.length ≤ sizeLine ∧ ∀ p, H p = none → Q (.ref p) (upd H p (.lst xs))
def GetF (K : PySem.W.Frag) (f : Str) (x : V) (H : Hp) (Q : VK) : Prop := ∃ a C dx fs v, x = .ref a ∧ H a = some (.ins C dx fs) ∧ Cls K C ∧ NoAttr K C f ∧ fs.lookup f = some v ∧ Q v H
def PutF (K : PySem.W.Frag) (f : Str) (x y : V) (H : Hp) (G : Hp → Prop) : Prop := ∃ a C dx fs, x = .ref a ∧ H a = some (.ins C dx fs) ∧ Cls K C ∧ NoAttr K C f ∧ fs.length < 1000 ∧ G (upd H a (.ins C dx (putF f y fs)))
def GetM (C : Addr) (m : Str) (x : V) (H : Hp) (G : Prop) : Prop := ∃ a dx fs, x = .ref a ∧ H a = some (.ins C dx fs) ∧ fs.lookup m = none ∧ G
def NewI (C : Addr) (sp : Sp) (vs : List V) (E : XK) (H : Hp) (Q : VK) : Prop := ∀ x dx, H x = none → H dx = none → dx ≠ x → sp (.ref x :: vs) (upd (upd H dx (.own x)) x (.ins C dx [])) (fun v H2 => v = .non ∧ Q (.ref x) H2) E
theorem i_seq (h : t1 { D with nx := t2 D } σ H) : tSeq t1 t2 D σ H := h
theorem i_cut (Mid : L2.St → Hp → Prop) (h : t1 { D with nx := Mid } σ H) (h2 : ∀ σ' H', Mid σ' H' → t2 D σ' H') : C8.tCut t1 t2 D σ H := ⟨Mid, h, h2⟩
theorem i_next (h : D.nx σ H) : tNext D σ H := h
theorem i_brk (h : D.bk σ H) : tBreak D σ H := h
theorem i_cont (h : D.ct σ H) : tCont D σ H := h
theorem i_asg (h : te σ H fun x H1 => g x σ H1 D.nx) : tAsg te g D σ H := h
theorem i_drop (h : te σ H fun _ H1 => D.nx σ H1) : tDrop te D σ H := h
theorem i_ret (h : te σ H D.rt) : tRet te D σ H := h
theorem i_retN (h : D.rt .non H) : tRetN D σ H := h
theorem i_ifS (h : tt σ H fun b H1 => if b = true then t1 D σ H1 else t2 D σ H1) : tIfS tt t1 t2 D σ H := h
theorem i_gname {G : L2.St → Hp → Prop} (h : G (σ.set i (some v)) H) : gName i v σ H G := h
theorem i_gcons {G : L2.St → Hp → Prop} {r : List V} (h : g v σ H fun σ' H' => gs r σ' H' G) : gCons g gs (v :: r) σ H G := ⟨v, r, rfl, h⟩
theorem i_gnil {G : L2.St → Hp → Prop} (h : G σ H) : gNil [] σ H G := ⟨rfl, h⟩
theorem i_gsub {to ti : TE} {t : TSet} {G : L2.St → Hp → Prop} (h : to σ H fun o H1 => ti σ H1 fun i H2 => t o i v H2 fun H3 => G σ H3) : gSub to ti t v σ H G := h
theorem i_par {tA : TA} (h : tA σ H fun vs H1 => ∃ v w, vs = [v, w] ∧ D.nx ((σ.set i (some v)).set j (some w)) H1) : tPar i j tA D σ H := h
theorem i_par2 {v w : V} {G : V → V → Prop} (h : G v w) : ∃ v' w', [v, w] = [v', w'] ∧ G v' w' := ⟨v, w, rfl, h⟩
theorem i_aug {ti : TIp} (hx : σ[i]? = some (some x)) (h : te σ H fun y H1 => ti x y H1 fun z H2 => D.nx (σ.set i (some z)) H2) : tAug i te ti D σ H := ⟨x, hx, h⟩
theorem i_ipI {F : Int → Int → Int} {m n : Int} (h : Q (.int (F m n)) H) : ipI F (.int m) (.int n) H Q := ⟨m, n, rfl, rfl, h⟩
theorem i_var (hx : σ[i]? = some (some v)) (h : Q v H) : tVar i σ H Q := ⟨v, hx, h⟩
theorem i_c (h : Q v H) : tC v σ H Q := h
theorem i_op {r : R2} (h : ta σ H fun x H1 => tb σ H1 fun y H2 => r x y H2 Q) : tOp r ta tb σ H Q := h
theorem i_un {r : V → Hp → VK → Prop} (h : ta σ H fun x H1 => r x H1 Q) : tUn r ta σ H Q := h
theorem i_rU {G : Int → V} {m : Int} (h : Q (G m) H) : rU G (.int m) H Q := ⟨m, rfl, h⟩
theorem i_rI0 {G : Int → Int → V} {m n : Int} (h : Q (G m n) H) : rI0 G (.int m) (.int n) H Q := ⟨m, n, rfl, rfl, h⟩
theorem i_rI {Cn : Int → Int → Prop} {G : Int → Int → V} {m n : Int} (hc : Cn m n) (h : Q (G m n) H) : rI Cn G (.int m) (.int n) H Q := ⟨m, n, rfl, rfl, hc, h⟩
theorem i_rEq (hs : scal x y = true) (h : Q (.bl (decide (x = y))) H) : rEq x y H Q := ⟨hs, h⟩
theorem i_rNe (hs : scal x y = true) (h : Q (.bl (!decide (x = y))) H) : rNe x y H Q := ⟨hs, h⟩
theorem i_test (h : te σ H fun x H' => ∃ k, x = .bl k ∧ QT k H') : tTest te σ H QT := h
theorem i_B (h : te σ H fun x H' => ∃ k, x = .bl k ∧ QT k H') : tB te σ H QT := h
theorem i_bl {k : Bool} {G : Bool → Prop} (h : G k) : ∃ k', V.bl k = .bl k' ∧ G k' := ⟨k, rfl, h⟩
theorem i_not (h : tt σ H fun c H1 => QT (!c) H1) : tNot tt σ H QT := h
theorem i_and (h : tt σ H fun c H1 => if c = true then tu σ H1 QT else QT false H1) : tAnd tt tu σ H QT := h
theorem i_or (h : tt σ H fun c H1 => if c = true then QT true H1 else tu σ H1 QT) : tOr tt tu σ H QT := h
theorem i_if (h : tt σ H fun c H1 => if c = true then ta σ H1 Q else tb σ H1 Q) : tIf tt ta tb σ H Q := h
theorem i_notV (h : te σ H fun x H1 => ∃ c, x = .bl c ∧ Q (.bl (!c)) H1) : tNotV te σ H Q := h
theorem i_andV (h : ta σ H fun x H1 => ∃ c, x = .bl c ∧ if c = true then tb σ H1 Q else Q (.bl false) H1) : tAndV ta tb σ H Q := h
theorem i_orV (h : ta σ H fun x H1 => ∃ c, x = .bl c ∧ if c = true then Q (.bl true) H1 else tb σ H1 Q) : tOrV ta tb σ H Q := h
theorem i_nil (h : QA [] H) : tNil σ H QA := h
theorem i_cons (h : ta σ H fun x H1 => tA σ H1 fun xs H2 => QA (x :: xs) H2) : tCons ta tA σ H QA := h
theorem i_tup (h : tA σ H fun xs H1 => NewT xs H1 Q) : tTup tA σ H Q := h
theorem i_lst (h : tA σ H fun xs H1 => NewL xs H1 Q) : tLst tA σ H Q := h
theorem i_call (h : tA σ H fun vs H1 => sp (vs ++ dvs) H1 Q (WE W σ)) : tCallG sp dvs W tA σ H Q := h
theorem i_opS {r : L2.St → R2} (h : ta σ H fun x H1 => tb σ H1 fun y H2 => r σ x y H2 Q) : tOpS r ta tb σ H Q := h
theorem i_unS {r : L2.St → V → Hp → VK → Prop} (h : ta σ H fun x H1 => r σ x H1 Q) : tUnS r ta σ H Q := h
theorem i_cbS {r : L2.St → List V → Hp → VK → Prop} (h : tA σ H fun vs H1 => r σ vs H1 Q) : tCBS r tA σ H Q := h
theorem i_cb {r : List V → Hp → VK → Prop} (h : tA σ H fun vs H1 => r vs H1 Q) : tCB r tA σ H Q := h
theorem i_fld (h : ta σ H fun x H1 => GetF K f x H1 Q) : tFld K ta f σ H Q := h
theorem i_meth {m : Str} (h : ta σ H fun x H1 => GetM C m x H1 (tA σ H1 fun vs H2 => sp (x :: (vs ++ dvs)) H2 Q (WE W σ))) : tMethG C m sp dvs W ta tA σ H Q := h
theorem i_make (h : tA σ H fun vs H1 => NewI C sp (vs ++ dvs) (WE W σ) H1 Q) : tMakeG C sp dvs W tA σ H Q := h
theorem i_sfld {tv : TE} (h : tv σ H fun y H1 => ta σ H1 fun x H2 => PutF K f x y H2 (fun H3 => D.nx σ H3)) : sFld K ta tv f D σ H := h
theorem i_ixL {xs : List V} {n : Int} (hs : SqL K H a xs) (ha : atI xs n = some v) (h : Q v H) : rIxL K (.ref a) (.int n) H Q := ⟨a, xs, n, v, rfl, rfl, hs, ha, h⟩
theorem i_setL {xs : List V} {n : Int} {G : Hp → Prop} (ho : H a = some (.lst xs)) (hi : ixN xs.length n = some j) (h : ∀ H', Keep [a] H H' → H' a = some (.lst (xs.set j v)) → G H') : rSetL (.ref a) (.int n) v H G :=
  ⟨a, xs, n, j, rfl, rfl, ho, hi, h _ (Keep.set' (by simp) ho (fun z => z)) upd_same⟩
theorem i_bm {T : String} {r : V → List V → Hp → VK → Prop} (h : ta σ H fun x H1 => tyV K T x H1 ∧ tA σ H1 fun xs H2 => r x xs H2 Q) : tBM K T r ta tA σ H Q := h
theorem i_bm0 {T : String} {r : V → List V → Hp → VK → Prop} (h : ta σ H fun x H1 => tyV K T x H1 ∧ r x [] H1 Q) : tBM0 K T r ta σ H Q := h
theorem i_tyL {xs : List V} {G : Prop} (hs : SqL K H a xs) (h : G) : tyV K "list" (.ref a) H ∧ G := ⟨.inl ⟨rfl, xs, hs⟩, h⟩
theorem i_lstR {xs : List V} (hz : xs.length ≤ sizeLine) (h : ∀ p H', H p = none → Keep [] H H' → H' p = some (.lst xs) → Q (.ref p) H') : NewL xs H Q := ⟨hz, fun p hp => h p _ hp (Keep.new hp) upd_same⟩
theorem i_pop0 {l : Addr} {xs : List V} (ho : H l = some (.lst (y :: xs))) (h : ∀ H', Keep [l] H H' → H' l = some (.lst xs) → Q y H') : rPopAt (.ref l) [.int 0] H Q :=
  ⟨l, _, 0, 0, y, rfl, rfl, ho, by decide, by decide, seqIndex_of (by decide) (by rw [List.length_cons]; omega), rfl, h _ (Keep.set' (by simp) ho (fun z => z)) upd_same⟩
theorem i_int {n : Int} {G : Int → Prop} {B : Prop} (h : G n) : (∃ i, [V.int n] = [.int i] ∧ G i) ∨ B := .inl ⟨n, rfl, h⟩
theorem i_intB {k : Bool} {G : Bool → Prop} {B : Prop} (h : G k) : B ∨ ∃ k', [V.bl k] = [.bl k'] ∧ G k' := .inr ⟨k, rfl, h⟩
theorem i_abs {n : Int} {G : Int → Prop} (h : G n) : ∃ i, [V.int n] = [.int i] ∧ G i := ⟨n, rfl, h⟩
theorem sz_le {n : Nat} (h : n ≤ 1000000) : n ≤ sizeLine := Nat.le_trans h (by decide)
theorem sz_lt {n : Nat} (h : n < 1000000) : n < sizeLine := Nat.lt_of_lt_of_le h (by decide)
theorem hr64 {k : Nat} {A : Around} (hr : Room k A) : A.units + 64 < cLine := by have := hr.un; omega
theorem b_eqI {A B : Prop} {m n : Int} (h1 : m = n → A) (h2 : m ≠ n → B) : if decide (V.int m = V.int n) = true then A else B := by
  by_cases h : m = n
  · rw [if_pos (by simp [h])]; exact h1 h
  · rw [if_neg (by simp [h])]; exact h2 h
theorem b_dec {A B c : Prop} [Decidable c] (h1 : c → A) (h2 : ¬ c → B) : if decide c = true then A else B := by
  by_cases h : c
  · rw [if_pos (by simp [h])]; exact h1 h
  · rw [if_neg (by simp [h])]; exact h2 h
theorem b_nbool {A B : Prop} {c : Bool} (h1 : c = false → A) (h2 : c = true → B) : if (!c) = true then A else B := by
  cases c with
  | true => rw [if_neg (by simp)]; exact h2 rfl
  | false => rw [if_pos (by simp)]; exact h1 rfl
theorem b_t {A B : Prop} (h1 : A) : if true = true then A else B := by rw [if_pos rfl]; exact h1
theorem b_f {A B : Prop} (h1 : B) : if false = true then A else B := by rw [if_neg (by simp)]; exact h1
theorem b_nt {A B : Prop} (h1 : B) : if (!true) = true then A else B := by rw [if_neg (by simp)]; exact h1
theorem b_nf {A B : Prop} (h1 : A) : if (!false) = true then A else B := by rw [if_pos (by simp)]; exact h1
end
end PB
local macro_rules | `(tactic| walk_at "pb1") => `(tactic| with_reducible (first
  | apply PB.i_seq | apply PB.i_asg | (refine PB.i_var rfl ?_) | apply PB.i_c | apply PB.i_op | apply PB.i_cons | apply PB.i_nil | apply PB.i_call | apply PB.i_opS | apply PB.i_unS | apply PB.i_cbS | apply PB.i_ifS | apply PB.i_test | apply PB.i_bl | apply PB.i_gname
  | apply PB.i_rI0 | (refine PB.i_rEq rfl ?_) | (refine PB.i_rNe rfl ?_) | apply PB.i_ret | apply PB.i_par | apply PB.i_par2 | apply PB.i_cb | apply PB.i_next | apply PB.i_drop | apply PB.i_un | apply PB.i_rU | apply PB.i_B | apply PB.i_not | apply PB.i_and | apply PB.i_or | apply PB.i_if
  | apply PB.i_andV | apply PB.i_orV | apply PB.i_notV | apply PB.i_retN | apply PB.i_tup | apply PB.i_lst | apply PB.i_fld | apply PB.i_meth | apply PB.i_make | apply PB.i_sfld | apply PB.i_gcons | apply PB.i_gnil | apply PB.i_gsub | apply PB.i_ipI | (refine PB.i_aug rfl ?_) | apply PB.i_brk | apply PB.i_cont | apply PB.i_bm | apply PB.i_bm0 | apply PB.i_int | apply PB.i_abs | apply PB.i_intB | apply PB.b_t | apply PB.b_f | apply PB.b_nt | apply PB.b_nf))
local macro_rules | `(tactic| walk_at "pb") => `(tactic| first | (walk_at "pb1"; repeat (walk_at "pb1")) | (dsimp only; repeat (walk_at "pb1")) | skip)
local macro_rules | `(tactic| walk_at "sz") => `(tactic| first | exact Nat.zero_le _ | (refine PB.sz_le ?_; simp; done) | (refine PB.sz_le ?_; simp <;> omega) | (refine PB.sz_lt ?_; simp; done) | (refine PB.sz_lt ?_; simp <;> omega) | (refine PB.sz_le ?_; omega) | (refine PB.sz_lt ?_; omega))
local macro_rules | `(tactic| walk_at "rng") => `(tactic| (simp only [Int.mul_add, Int.add_mul, Int.mul_sub, Int.sub_mul, Int.neg_mul, Int.mul_neg, Int.mul_assoc, Int.mul_comm, Int.mul_left_comm, Int.mul_one, Int.one_mul, Int.mul_zero, Int.zero_mul] <;> omega))
namespace PB
open PySem PySem.Spec PyProof.Rows L2
theorem dpAll_ints {K : PySem.W.Frag} {H : Hp} : ∀ ns : List Int, DpAll K H (ns.map V.int) (ns.map PyData.int)
  | [] => .nil
  | n :: ns => .cons (.int n) (dpAll_ints ns)
theorem canLay_ints : ∀ ns : List Int, PyData.canLayAll0 (ns.map PyData.int) = true
  | [] => by simp [PyData.canLayAll0]
  | n :: ns => by simp [PyData.canLayAll0, PyData.canLay0, canLay_ints ns]
theorem depth_ints : ∀ ns : List Int, PyData.depthAll (ns.map PyData.int) = 0
  | [] => by simp [PyData.depthAll]
  | n :: ns => by simp [PyData.depthAll, PyData.depth, depth_ints ns]
theorem shaped_ints (ns : List Int) : SeqAt.shaped (.list (ns.map PyData.int)) = true := by
  simp [SeqAt.shaped, PyData.canLay0, canLay_ints, PyData.depth, depth_ints]
theorem i_neNil {K : PySem.W.Frag} {H : Hp} {Q : VK} {l p : Addr} {ns : List Int} (hl : H l = some (.lst (ns.map V.int))) (hp : H p = some (.lst [])) (h : Q (.bl (!ns.isEmpty)) H) : rNeD K (.ref l) (.ref p) H Q := by
  refine ⟨.list (ns.map PyData.int), .list [], .lst (SqL.of hl) (dpAll_ints ns), .lst (SqL.of hp) .nil, shaped_ints ns, shaped_ints [], ?_⟩
  have e : PyData.eqv (.list (ns.map PyData.int)) (.list []) = ns.isEmpty := by
    cases ns <;> simp [PyData.eqv, PyData.eqvAll]
  rw [e]
  exact h
/-- the spring of draws at S, its cells at l: at most n draws so far -/
structure Stm (S l : Addr) (n : Nat) (H : Hp) : Prop where
  ne : S ≠ l
  ex : ∃ (rest : List Int) (c m : Int) (q : Nat), q ≤ n ∧ H S = some (.lst [.ref l, .int c, .int q, .int m]) ∧ H l = some (.lst (rest.map V.int)) ∧ rest.length ≤ 63 ∧ 0 ≤ m ∧ m < 2147483647
theorem Stm.mono {S l : Addr} {n k : Nat} {H : Hp} (h : Stm S l n H) (hk : n ≤ k) : Stm S l k H :=
  ⟨h.ne, let ⟨r, c, m, q, a, b⟩ := h.ex; ⟨r, c, m, q, Nat.le_trans a hk, b⟩⟩
theorem Stm.keep {S l : Addr} {n : Nat} {ms : List Addr} {H H' : Hp} (h : Stm S l n H) (k : Keep ms H H') (h1 : S ∉ ms) (h2 : l ∉ ms) : Stm S l n H' :=
  ⟨h.ne, let ⟨r, c, m, q, a, b, e, f⟩ := h.ex; ⟨r, c, m, q, a, k.at_ _ _ h1 b, k.at_ _ _ h2 e, f⟩⟩
theorem Stm.fresh {S l : Addr} {n : Nat} {H : Hp} {p : Addr} (h : Stm S l n H) (hp : H p = none) : p ∉ [S, l] := by
  obtain ⟨_, _, _, _, _, a, b, _⟩ := h.ex
  have h1 := ne_of_none a hp
  have h2 := ne_of_none b hp
  simpa using ⟨h1.symm, h2.symm⟩
/-- what stands at the spring's places is a list -/
theorem Stm.off {S l : Addr} {n : Nat} {H : Hp} {p : Addr} {o : HO} (h : Stm S l n H) (hp : H p = some o) (ho : ∀ xs, o ≠ .lst xs) : p ∉ [S, l] := by
  obtain ⟨_, _, _, _, _, a, b, _⟩ := h.ex
  have h1 := ne_of hp a (ho _)
  have h2 := ne_of hp b (ho _)
  simpa using ⟨h1, h2⟩
/-- _law_draw -/
def spDraw : Sp := fun vs H Q _ => ∃ (S l : Addr) (n : Nat) (many : Int), vs = [.ref S, .int many] ∧ 0 < many ∧ many.natAbs < 2 ^ 9000 ∧ n < 10000000 ∧ Stm S l n H ∧
  ∀ H' r, Keep [S, l] H H' → Stm S l (n + 1) H' → 0 ≤ r → r < many → Q (.int r) H'
theorem p64 : (2 : Nat) ^ 64 = 18446744073709551616 := by decide
theorem mulW_small {i j : Int} (hi : i.natAbs < 2 ^ 64) (hj : j.natAbs < 2 ^ 64) : CMulW i j := wide_mul hi hj (by decide) (by decide) (by decide)
end PB
namespace PB
open PySem PySem.W PyProof.Rows Builtin
end PB
namespace PB
open PySem PySem.Spec PyProof.Rows L2
section
variable {X : Cx} {CX : CXT} {k : Nat} {f C : Addr} {fd : FuncData} {ps : List Str} {sp : Sp} {dvs : List V} {ds : List Value} {E : XK} {W : WX} {c mt : Str}
theorem OkM.meth (O : OkM X.prog X.w X.K X.mg X.base CX k c mt ps dvs sp) : Meth X.K (He.ga X.K c) mt (He.ma X.K (He.ga X.K c) mt) := let ⟨_, _, _, _, m, _⟩ := O; m
end
end PB
namespace PB
open PySem PySem.Spec PyProof.Rows L2
def SaysP (fa : List He.Fa) (fn : List He.DefD) (bs : List (PySem.W.Frag → Bool)) (K : PySem.W.Frag) : Prop := He.SaysD fa fn K ∧ (bs.all fun b => b K) = true
theorem SaysP.bool {fa : List He.Fa} {fn : List He.DefD} {bs : List (PySem.W.Frag → Bool)} {K : PySem.W.Frag} (c : SaysP fa fn bs K) (i : Nat) {b : PySem.W.Frag → Bool} (h : bs[i]? = some b := by rfl) : b K = true :=
  List.all_eq_true.mp c.2 b (List.mem_of_getElem? h)
end PB
namespace PB
open PySem PySem.Spec PyProof.Rows L2
/-- what isinstance asks of an own class, and its answers for builtin types -/
structure IsiC (K : PySem.W.Frag) (C : Addr) : Prop where
  ic : C8.InsC K C
  no : ∀ n ∈ ["int", "bool", "str", "list", "tuple", "NoneType"], PySem.W.kitOne K (.type n) (.ref C) = some false
  on : ∀ n ∈ ["int", "bool", "str", "list", "tuple"], PySem.W.kitOne K (.ref C) (.type n) = some false
def isiB (x : Str) (K : PySem.W.Frag) : Bool :=
  (Fa_cls x K && (He.eqO (PySem.W.findIn K (.ref (He.ga K x)) "__class__") (some (some (.builtin "object.__class__"))) && (He.eqO (PySem.W.specialIn K (.builtin "object.__class__") "__get__") (some (some (.builtin "getset_descriptor.__get__"))) &&
    (decide (PySem.W.takesIn K (.builtin "object.__class__") = some true) && (decide (PySem.W.mroIn K (He.ga K x) (.type "object") = some true) && decide (PySem.W.kitOne K (.ref (He.ga K x)) (.ref (He.ga K x)) = some true)))))) &&
  (["int", "bool", "str", "list", "tuple", "NoneType"].all fun n => decide (PySem.W.kitOne K (.type n) (.ref (He.ga K x)) = some false)) && (["int", "bool", "str", "list", "tuple"].all fun n => decide (PySem.W.kitOne K (.ref (He.ga K x)) (.type n) = some false))
where Fa_cls (x : Str) (K : PySem.W.Frag) : Bool := (He.Fa.cls x).ok K
theorem isi_of {x : Str} {K : PySem.W.Frag} (h : isiB x K = true) : IsiC K (He.ga K x) := by
  obtain ⟨h, h3⟩ := He.ba h
  obtain ⟨h1, h2⟩ := He.ba h
  obtain ⟨a, h1⟩ := He.ba h1
  obtain ⟨b, h1⟩ := He.ba h1
  obtain ⟨c, h1⟩ := He.ba h1
  obtain ⟨d, h1⟩ := He.ba h1
  obtain ⟨e, f⟩ := He.ba h1
  exact ⟨⟨He.cls_ok a, He.eqO_ok b, He.eqO_ok c, of_decide_eq_true d, of_decide_eq_true e, of_decide_eq_true f⟩, fun n hn => of_decide_eq_true (List.all_eq_true.mp h2 n hn), fun n hn => of_decide_eq_true (List.all_eq_true.mp h3 n hn)⟩
end PB
namespace PB
open PySem PySem.Spec PyProof.Rows L2
theorem i_makeK0 {σ : L2.St} {H : Hp} {Q : VK} {C : Addr} {m : Nat} {sp : Sp} {E : XK} {tk : TA} (h : tk σ H fun zs H2 => zs.length = m ∧ NewI C sp zs E H2 Q) : tMakeK C 0 m sp (fun vs zs => vs ++ zs) E tNil tk σ H Q := by
  have e : (fun zs H2 => zs.length = m ∧ NewI C sp zs E H2 Q) = fun (zs : List V) (H2 : Hp) => ([] : List V).length = 0 ∧ zs.length = m ∧ NewI C sp zs E H2 Q := by
    funext zs H2
    simp
  rw [e] at h
  exact h
def LcJ (J : It) (g : TG) (tt : TT) (te : TE) (vs : List Nat) (σ : L2.St) (Q : VK) (H1 : Hp) : Prop := ∀ D, H1 D = none → ∃ W : Nat → Nat → Hp → Prop, (∃ m, W 0 m (upd H1 D (.lst []))) ∧ ∀ i m H, W i m H →
  (J.stop i H ∧ Q (.ref D) H) ∨ (J.go i H ∧ ∃ Nx : Hp → Prop, (∀ H', Nx H' → ∃ m', m' < m ∧ W (i + 1) m' H') ∧ ∀ x H', J.yld i H x H' → g x (wipe σ vs) H' fun σ2 H2 => wipe σ2 vs = wipe σ vs ∧ tt σ2 H2 fun b H3 =>
    if b = true then te σ2 H3 fun y H4 => ∃ acc, H4 D = some (.lst acc) ∧ acc.length < sizeLine ∧ Nx (upd H4 D (.lst (acc ++ [y]))) else Nx H3)
def ForJ (J : It) (g : TG) (tb : TS) (D : Ends) (σ : L2.St) (H1 : Hp) : Prop := ∃ W : Nat → Nat → L2.St → Hp → Prop, (∃ m, W 0 m σ H1) ∧ ∀ i m σ H, W i m σ H →
  (J.stop i H ∧ D.nx σ H) ∨ (J.go i H ∧ ∃ N : L2.St → Hp → Prop, (∀ σ' H', N σ' H' → ∃ m', m' < m ∧ W (i + 1) m' σ' H') ∧ ∀ x H', J.yld i H x H' → g x σ H' fun σ2 H2 => tb { D with nx := N, ct := N, bk := D.nx } σ2 H2)
def ItL (K : PySem.W.Frag) (R : It → Hp → Prop) (x : V) (H : Hp) : Prop := ∃ a, x = .ref a ∧ (∃ xs, SqL K H a xs) ∧ R (Itl K a) H
def ItT (K : PySem.W.Frag) (R : It → Hp → Prop) (x : V) (H : Hp) : Prop := ∃ a, x = .ref a ∧ (∃ xs, SqT K H a xs) ∧ R (Itt K a) H
def ItR1 (R : It → Hp → Prop) (vs : List V) (H : Hp) : Prop := ∃ j : Int, vs = [.int j] ∧ -(2 ^ 62) ≤ j ∧ j < 2 ^ 62 ∧ R (Itr 0 j.toNat) H
def ItR2 (R : It → Hp → Prop) (vs : List V) (H : Hp) : Prop := ∃ i j : Int, vs = [.int i, .int j] ∧ (-(2 ^ 62) ≤ i ∧ i < 2 ^ 62 ∧ -(2 ^ 62) ≤ j ∧ j < 2 ^ 62) ∧ R (Itr i (j - i).toNat) H
section
variable {σ : L2.St} {H : Hp} {Q : VK} {K : PySem.W.Frag} {a : Addr} {xs : List V} {g : TG} {tt : TT} {te : TE} {vs : List Nat} {ta : TE} {tA : TA} {D : Ends} {tb : TS} {wi : TI} {R : It → Hp → Prop}
theorem i_lc (h : wi σ H fun J H1 => LcJ J g tt te vs σ Q H1) : tLc wi g tt te vs σ H Q := h
theorem i_for (h : wi σ H fun J H1 => ForJ J g tb D σ H1) : tFor wi g tb D σ H := h
theorem i_iList (h : ta σ H fun x H1 => ItL K R x H1) : iList K ta σ H R := h
theorem i_iTup (h : ta σ H fun x H1 => ItT K R x H1) : iTup K ta σ H R := h
theorem i_iRng1 (h : tA σ H fun x H1 => ItR1 R x H1) : iRng1 tA σ H R := h
theorem i_iRng2 (h : tA σ H fun x H1 => ItR2 R x H1) : iRng2 tA σ H R := h
theorem i_yes {G : Bool → Hp → Prop} (h : G true H) : tYes σ H G := h
end
end PB
local macro_rules | `(tactic| walk_at "pb1") => `(tactic| with_reducible (first | apply PB.i_lc | apply PB.i_for | apply PB.i_iList | apply PB.i_iTup | apply PB.i_iRng1 | apply PB.i_iRng2 | apply PB.i_yes | apply PB.i_makeK0))
namespace PB
open PySem PySem.Spec PyProof.Rows L2
theorem sz_mono {i : Int} {a n : Nat} (h : i.natAbs < 2 ^ a) (hn : a ≤ n) : i.natAbs < 2 ^ n := Nat.lt_of_lt_of_le h (Nat.pow_le_pow_right (by decide) hn)
end PB
namespace PB
open PySem PySem.Spec PyProof.Rows L2
theorem cls_tys : ∀ bs : List String, Paired ClsV (bs.map V.ty) (bs.map Value.type)
  | [] => .nil
  | b :: bs => .cons (.ty b) (cls_tys bs)
section
variable {K : PySem.W.Frag} {H : Hp} {Q : VK} {σ : L2.St} {x : V} {n : String} {k : Bool} {tp : Addr}
def ItZ (K : PySem.W.Frag) (R : It → Hp → Prop) (vs : List V) (H1 : Hp) : Prop := ∃ a b xs ys, vs = [.ref a, .ref b] ∧ ((SqL K H1 a xs ∧ SqL K H1 b ys ∧ R (Itz K a b) H1) ∨ (SqT K H1 a xs ∧ SqT K H1 b ys ∧ R (RZ.ItzT K a b) H1))
variable {a b : Addr} {xs ys : List V} {g : TG} {tt : TT} {te : TE} {vs : List Nat} {tA : TA} {R : It → Hp → Prop} {D : Ends} {tb : TS}
theorem i_iZipA (h : tA σ H fun vs H1 => ItZ K R vs H1) : RZ.iZipA K tA σ H R := h
end
section
variable {K : PySem.W.Frag} {H : Hp} {Q : VK} {a : Addr} {xs : List V}
theorem call_lenN {X : Cx} : CallR X (.builtin "len") (rLen X.K) := call_len
theorem i_isB {p q : Bool} (h : Q (.bl (decide (p = q))) H) : rIsB (.bl p) (.bl q) H Q := ⟨p, q, rfl, rfl, h⟩
end
theorem b_eqR {A B : Prop} {x : V} (h : A) : if decide (x = x) = true then A else B := by rw [if_pos (by simp)]; exact h
theorem b_neR {A B : Prop} {x : V} (h : B) : if (!decide (x = x)) = true then A else B := by rw [if_neg (by simp)]; exact h
/-- x and y are the same data, at most n lists and tuples deep -/
inductive Sm (H : Hp) : Nat → V → V → Prop
  | int {n : Nat} (i : Int) : Sm H n (.int i) (.int i)
  | bl {n : Nat} (i : Bool) : Sm H n (.bl i) (.bl i)
  | str {n : Nat} (i : Str) : Sm H n (.str i) (.str i)
  | non {n : Nat} : Sm H n .non .non
  | lst {n : Nat} {a b : Addr} {xs ys : List V} (ha : H a = some (.lst xs)) (hb : H b = some (.lst ys)) (hz : xs.length ≤ 100000) (hl : xs.length = ys.length) (he : ∀ (i : Nat) (x y : V), xs[i]? = some x → ys[i]? = some y → Sm H n x y) : Sm H (n + 1) (.ref a) (.ref b)
  | tup {n : Nat} {a b : Addr} {xs ys : List V} (ha : H a = some (.tup xs)) (hb : H b = some (.tup ys)) (hz : xs.length ≤ 100000) (hl : xs.length = ys.length) (he : ∀ (i : Nat) (x y : V), xs[i]? = some x → ys[i]? = some y → Sm H n x y) : Sm H (n + 1) (.ref a) (.ref b)
theorem Sm.keep {H H' : Hp} (k : Keep [] H H') {n : Nat} {x y : V} (h : Sm H n x y) : Sm H' n x y := by
  induction h with
  | int i => exact .int i
  | bl i => exact .bl i
  | str i => exact .str i
  | non => exact .non
  | lst ha hb hz hl _ ih => exact .lst (k.at_ _ _ (by simp) ha) (k.at_ _ _ (by simp) hb) hz hl ih
  | tup ha hb hz hl _ ih => exact .tup (k.at_ _ _ (by simp) ha) (k.at_ _ _ (by simp) hb) hz hl ih
theorem Sm.mono {H : Hp} {n : Nat} {x y : V} (h : Sm H n x y) : ∀ {m : Nat}, n ≤ m → Sm H m x y := by
  induction h with
  | int i => exact fun _ => .int i
  | bl i => exact fun _ => .bl i
  | str i => exact fun _ => .str i
  | non => exact fun _ => .non
  | lst ha hb hz hl _ ih =>
    intro m hm
    obtain ⟨m, rfl⟩ : ∃ k, m = k + 1 := ⟨m - 1, by omega⟩
    exact .lst ha hb hz hl fun i x y h1 h2 => ih i x y h1 h2 (by omega)
  | tup ha hb hz hl _ ih =>
    intro m hm
    obtain ⟨m, rfl⟩ : ∃ k, m = k + 1 := ⟨m - 1, by omega⟩
    exact .tup ha hb hz hl fun i x y h1 h2 => ih i x y h1 h2 (by omega)
end PB
local macro_rules | `(tactic| walk_at "pb1") => `(tactic| with_reducible (first | apply PB.i_iZipA | apply PB.b_eqR | apply PB.b_neR | apply PB.i_isB))
namespace PB
open PySem PySem.W PyProof.Rows Builtin
end PB
namespace PB
open PySem PySem.Spec PyProof.Rows L2
end PB
namespace PB
open PySem PySem.Spec PyProof.Rows L2
def rBoolI : List V → Hp → VK → Prop := fun xs H Q => (∃ i, xs = [.int i] ∧ Q (.bl (i != 0)) H) ∨ ∃ k, xs = [.bl k] ∧ Q (.bl k) H
theorem op_addS {X : Cx} : OpR X (binaryOp .Add) rAddS := op_add_str
def PutS (x : V) (acc : Str) (H : Hp) (G : Str → Hp → Prop) : Prop := ∃ y : Str, x = .str y ∧ (acc ++ y).length ≤ sizeLine ∧ G (acc ++ y) H
def FmtV (x : V) (H : Hp) (Q : VK) : Prop := (∃ y : Str, x = .str y ∧ y.length ≤ sizeLine ∧ Q (.str y) H) ∨ ∃ i : Int, x = .int i ∧ i.natAbs.log2 < 1920 ∧ Q (.str (toString i)) H
def tJoin (ts : List TE) : TE := fun σ H Q => tJs ts Str.empty σ H fun out H1 => Q (.str out) H1
section
variable {σ : L2.St} {H : Hp} {Q : VK} {QS : Str → Hp → Prop} {t te : TE} {ts : List TE} {acc : Str} {i : Int} {x y : Str}
theorem i_join (h : tJs ts Str.empty σ H fun out H1 => Q (.str out) H1) : tJoin ts σ H Q := h
theorem i_js (h : t σ H fun x H1 => PutS x acc H1 fun out H2 => tJs ts out σ H2 QS) : tJs (t :: ts) acc σ H QS := h
theorem i_jsE (h : QS acc H) : tJs [] acc σ H QS := h
theorem i_fmt (h : te σ H fun x H1 => FmtV x H1 Q) : tFmt te σ H Q := h
theorem i_boolI (h : Q (.bl (i != 0)) H) : rBoolI [.int i] H Q := .inl ⟨i, rfl, h⟩
end
end PB
local macro_rules | `(tactic| walk_at "pb1") => `(tactic| with_reducible (first | apply PB.i_join | apply PB.i_js | apply PB.i_jsE | apply PB.i_fmt | apply PB.i_boolI))
namespace PB
open PySem PySem.Spec PyProof.Rows L2
def fnA (K : PySem.W.Frag) (a : Addr) : He.FnW := match K.lookup a with
  | some ⟨_, _, .func fd, _⟩ => some (fd.name, fd.qualname, fd.params, fd.body, fd.scope, fd.globals, fd.closure.map (fun p => (p.1, 0)), fd.builtins)
  | _ => none
/-- one def: where it stands, its name, qualified name, parameters, body, scope, defaults -/
structure DefP where
  at_ : PySem.W.Frag → Addr
  name : Str
  qual : Str
  params : Arguments
  body : List Stmt
  scope : Scope
  dfl : List He.Dv := []
  /-- it names super() -/
  sup : Bool := false
def DefP.clo (d : DefP) : List (Str × Addr) := if d.sup then [("__class__", 0)] else []
def DefP.val (d : DefP) : He.FnW := some (d.name, d.qual, d.params, .stmts d.body, d.scope, mainGlobals, d.clo, builtinsNs)
def DefP.dvs (K : PySem.W.Frag) (d : DefP) : List V := d.dfl.map (He.Dv.v K)
def DefP.ok (K : PySem.W.Frag) (d : DefP) : Bool := PySem.W.keepIn K (.ref (d.at_ K)) && (match K.lookup (d.at_ K) with
  | some ⟨_, _, .func fd, _⟩ => PySem.W.codeIn K fd.code d.qual && (He.dflB K fd.defaults (d.dvs K) && He.kwdB K fd.kwdefaults [])
  | _ => false)
theorem DefP.funD {K : PySem.W.Frag} {d : DefP} (hs : d.sup = false) (e : fnA K (d.at_ K) = d.val) (c : d.ok K = true) : ∃ fd, FunD K d.name d.qual d.params d.body d.scope (d.dvs K) [] (d.at_ K) fd := by
  obtain ⟨kp, c2⟩ := He.ba c
  unfold fnA at e
  cases q : K.lookup (d.at_ K) with
  | none =>
    rw [q] at c2
    cases c2
  | some o =>
    obtain ⟨oc, od, dt, osl⟩ := o
    rw [q] at c2 e
    cases dt with
    | func fd =>
      obtain ⟨n1, n2, n3, n4, n5, n6, n7, n8, n9, n10, n11, n12, n13, n14, n15⟩ := fd
      have e2 : (some (n1, n2, n3, n4, n5, n6, n7.map (fun p => (p.1, 0)), n15) : He.FnW) = some (d.name, d.qual, d.params, .stmts d.body, d.scope, mainGlobals, d.clo, builtinsNs) := e
      unfold DefP.clo at e2
      rw [hs] at e2
      simp only [Option.some.injEq, Prod.mk.injEq, Bool.false_eq_true, if_false, List.map_eq_nil_iff] at e2
      obtain ⟨h1, h2, h3, h4, h5, h6, h7, h8⟩ := e2
      subst h1 h2 h3 h4 h5 h6 h7 h8
      have c3 : (PySem.W.codeIn K n13 d.qual && (He.dflB K n8 (d.dvs K) && He.kwdB K n9 [])) = true := c2
      obtain ⟨k1, k2⟩ := He.ba c3
      obtain ⟨k3, k4⟩ := He.ba k2
      exact ⟨_, ⟨oc, od, n8, n9, n10, n11, n12, n13, n14, osl, rfl, q, k1, He.dflB_ok k3, He.kwdB_ok k4⟩, kp⟩
    | _ => cases c2
theorem DefP.funC {K : PySem.W.Frag} {d : DefP} (hs : d.sup = true) (e : fnA K (d.at_ K) = d.val) (c : d.ok K = true) : ∃ (fd : FuncData) (cc : Addr) (dV kV doc pm : Value) (an : Option Addr) (cdv ct oc : Value) (od : Option Addr) (osl : Array (Option Value)),
    fd = ⟨d.name, d.qual, d.params, .stmts d.body, d.scope, mainGlobals, [("__class__", cc)], dV, kV, doc, pm, an, cdv, ct, builtinsNs⟩ ∧ K.lookup (d.at_ K) = some ⟨oc, od, .func fd, osl⟩ ∧ PySem.W.codeIn K cdv d.qual = true := by
  obtain ⟨kp, c2⟩ := He.ba c
  unfold fnA at e
  cases q : K.lookup (d.at_ K) with
  | none =>
    rw [q] at c2
    cases c2
  | some o =>
    obtain ⟨oc, od, dt, osl⟩ := o
    rw [q] at c2 e
    cases dt with
    | func fd =>
      obtain ⟨n1, n2, n3, n4, n5, n6, n7, n8, n9, n10, n11, n12, n13, n14, n15⟩ := fd
      have e2 : (some (n1, n2, n3, n4, n5, n6, n7.map (fun p => (p.1, 0)), n15) : He.FnW) = some (d.name, d.qual, d.params, .stmts d.body, d.scope, mainGlobals, d.clo, builtinsNs) := e
      unfold DefP.clo at e2
      rw [hs] at e2
      simp only [Option.some.injEq, Prod.mk.injEq, if_true] at e2
      obtain ⟨h1, h2, h3, h4, h5, h6, h7, h8⟩ := e2
      subst h1 h2 h3 h4 h5 h6 h8
      obtain ⟨cc, rfl⟩ : ∃ cc, n7 = [(("__class__" : Str), cc)] := by
        cases n7 with
        | nil =>
          have := congrArg List.length h7
          simp at this
        | cons p l =>
          cases l with
          | nil =>
            obtain ⟨p1, p2⟩ := p
            simp only [List.map_cons, List.map_nil, List.cons.injEq, Prod.mk.injEq, and_true] at h7
            rw [h7]
            exact ⟨p2, rfl⟩
          | cons _ _ =>
            have := congrArg List.length h7
            simp at this
      have c3 : (PySem.W.codeIn K n13 d.qual && (He.dflB K n8 (d.dvs K) && He.kwdB K n9 [])) = true := c2
      exact ⟨_, cc, n8, n9, n10, n11, n12, n13, n14, oc, od, osl, rfl, rfl, (He.ba c3).1⟩
    | _ => cases c2
abbrev AlQ : Type := Bool × List He.FnW
def obsQ (n : Nat) (fn : List DefP) (bs : List (PySem.W.Frag → Bool)) (g : Addr → Option Obj) : AlQ :=
  let K := He.frG g (He.asD g n ++ [PySem.cStatics])
  ((bs.all fun b => b K) && fn.all fun d => d.ok K, fn.map fun d => fnA K (d.at_ K))
def SaysQ (fn : List DefP) (bs : List (PySem.W.Frag → Bool)) (K : PySem.W.Frag) : Prop := (((bs.all fun b => b K) && fn.all fun d => d.ok K, fn.map fun d => fnA K (d.at_ K)) : AlQ) = (true, fn.map DefP.val)
def hookQ (n : Nat) (fn : List DefP) (bs : List (PySem.W.Frag → Bool)) : PySem.W.Hook where
  α := AlQ
  obs := fun s => obsQ n fn bs s.heap.get?
  val := fun _ => (true, fn.map DefP.val)
  says := fun _ h => ∃ K : PySem.W.Frag, K.In h ∧ SaysQ fn bs K
  of := fun _ _ e => ⟨_, He.frG_in, e⟩
  keeps := fun _ _ _ ⟨K, hK, c⟩ k => ⟨K, PySem.W.Frag.In.keeps hK k, c⟩
theorem obsQ_eq {n : Nat} {fn : List DefP} {bs : List (PySem.W.Frag → Bool)} {g : Addr → Option Obj} {s : Shared} (h : ∀ a, g a = s.heap.get? a) : obsQ n fn bs g = (hookQ n fn bs).obs s := by
  have e : g = s.heap.get? := funext h
  rw [e] <;> rfl
section
variable {fn : List DefP} {bs : List (PySem.W.Frag → Bool)} {K : PySem.W.Frag}
theorem SaysQ.bool (c : SaysQ fn bs K) (i : Nat) {b : PySem.W.Frag → Bool} (h : bs[i]? = some b := by rfl) : b K = true :=
  List.all_eq_true.mp (He.ba (show ((bs.all fun b => b K) && fn.all fun d => d.ok K) = true from congrArg (fun z : AlQ => z.1) c)).1 b (List.mem_of_getElem? h)
theorem SaysQ.def_ (c : SaysQ fn bs K) (i : Nat) {d : DefP} (h : fn[i]? = some d := by rfl) (hs : d.sup = false := by rfl) : ∃ fd, FunD K d.name d.qual d.params d.body d.scope (d.dvs K) [] (d.at_ K) fd := by
  have c2 := (He.ba (show ((bs.all fun b => b K) && fn.all fun d => d.ok K) = true from congrArg (fun z : AlQ => z.1) c)).2
  have e : (fn.map fun d => fnA K (d.at_ K)) = fn.map DefP.val := congrArg (fun z : AlQ => z.2) c
  have e2 : (fn.map fun d => fnA K (d.at_ K))[i]? = (fn.map DefP.val)[i]? := by rw [e]
  rw [List.getElem?_map, List.getElem?_map, h] at e2
  exact DefP.funD hs (Option.some.inj e2) (List.all_eq_true.mp c2 d (List.mem_of_getElem? h))
theorem SaysQ.defC (c : SaysQ fn bs K) (i : Nat) {d : DefP} (h : fn[i]? = some d := by rfl) (hs : d.sup = true := by rfl) : ∃ (fd : FuncData) (cc : Addr) (dV kV doc pm : Value) (an : Option Addr) (cdv ct oc : Value) (od : Option Addr) (osl : Array (Option Value)),
    fd = ⟨d.name, d.qual, d.params, .stmts d.body, d.scope, mainGlobals, [("__class__", cc)], dV, kV, doc, pm, an, cdv, ct, builtinsNs⟩ ∧ K.lookup (d.at_ K) = some ⟨oc, od, .func fd, osl⟩ ∧ PySem.W.codeIn K cdv d.qual = true := by
  have c2 := (He.ba (show ((bs.all fun b => b K) && fn.all fun d => d.ok K) = true from congrArg (fun z : AlQ => z.1) c)).2
  have e : (fn.map fun d => fnA K (d.at_ K)) = fn.map DefP.val := congrArg (fun z : AlQ => z.2) c
  have e2 : (fn.map fun d => fnA K (d.at_ K))[i]? = (fn.map DefP.val)[i]? := by rw [e]
  rw [List.getElem?_map, List.getElem?_map, h] at e2
  exact DefP.funC hs (Option.some.inj e2) (List.all_eq_true.mp c2 d (List.mem_of_getElem? h))
end
/-- the getter of the property f of C -/
def pga (K : PySem.W.Frag) (C : Addr) (f : Str) : Addr := match PySem.W.recIn K (He.ma K C f) "property" with
  | some (.ref g :: _) => g
  | _ => 0
def propB (x f : Str) (K : PySem.W.Frag) : Bool := He.eqO (PySem.W.findIn K (.ref (He.ga K x)) f) (some (some (.ref (He.ma K (He.ga K x) f)))) && (He.eqO (PySem.W.specialIn K (.ref (He.ma K (He.ga K x) f)) "__get__") (some (some (.builtin "property.__get__"))) &&
  (decide (PySem.W.takesIn K (.ref (He.ma K (He.ga K x) f)) = some true) && (match PySem.W.recIn K (He.ma K (He.ga K x) f) "property" with
    | some (.ref _ :: _) => true
    | _ => false)))
theorem prop_of {x f : Str} {K : PySem.W.Frag} (h : propB x f K = true) : PropOf K (He.ga K x) f (He.ma K (He.ga K x) f) (pga K (He.ga K x) f) := by
  obtain ⟨h1, h⟩ := He.ba h
  obtain ⟨h2, h⟩ := He.ba h
  obtain ⟨h3, h4⟩ := He.ba h
  refine ⟨He.eqO_ok h1, He.eqO_ok h2, of_decide_eq_true h3, ?_⟩
  unfold pga
  cases e : PySem.W.recIn K (He.ma K (He.ga K x) f) "property" with
  | none => rw [e] at h4; cases h4
  | some l =>
    rw [e] at h4
    cases l with
    | nil => cases h4
    | cons v r =>
      cases v with
      | ref g => exact ⟨r, rfl⟩
      | _ => cases h4
/-- a property's getter: what readers have -/
def OkP (P : Program) (w : World) (K : PySem.W.Frag) (mg : Str → Option Value) (base : Heap) (CX : CXT) (k : Nat) (c f : Str) (ps : List Str) (dvs : List V) (sp : Sp) : Prop :=
  ∃ (fd : FuncData) (ds : List Value), FnOk P w K mg base CX k (pga K (He.ga K c) f) fd ps sp ∧ Cls K (He.ga K c) ∧ PropOf K (He.ga K c) f (He.ma K (He.ga K c) f) (pga K (He.ga K c) f) ∧ Binds K fd ps ds ∧ Vals dvs ds
def GetP (C : Addr) (sp : Sp) (x : V) (H : Hp) (Q : VK) (E : XK) : Prop := ∃ a dx fs, x = .ref a ∧ H a = some (.ins C dx fs) ∧ sp [.ref a] H Q E
def tPropG (C : Addr) (sp : Sp) (ta : TE) : TE := fun σ H Q => ta σ H fun x H1 => GetP C sp x H1 Q (fun _ _ _ => False)
theorem pe_propF {X : Cx} {k : Nat} {c f : Str} {ps : List Str} {sp : Sp} {e : Expr} {ta : TE} {pos : Pos} (O : OkP X.prog X.w X.K X.mg X.base CX0 k c f ps [] sp) (hr : Room (k + 1) X.A) (he : PE X e ta) (hab : attributeBase e f X.env (eval e X.env) = eval e X.env := by rfl) :
    PE X (.Attribute e f pos) (tPropG (He.ga X.K c) sp ta) := by
  obtain ⟨fd, ds, F, hc, hp, hb, hd⟩ := O
  exact pe_prop (E := fun _ _ _ => False) he hc hp F hr hb hd (fun _ _ _ _ _ _ _ h => h) hab
section
variable {σ : L2.St} {H : Hp} {Q : VK} {ta : TE} {C a dx : Addr} {fs : List (Str × V)} {sp : Sp} {E : XK}
theorem i_prop (h : ta σ H fun x H1 => GetP C sp x H1 Q (fun _ _ _ => False)) : tPropG C sp ta σ H Q := h
end
end PB
local macro_rules | `(tactic| walk_at "pb1") => `(tactic| with_reducible (first | apply PB.i_prop))
namespace PB
open PySem PySem.Spec PyProof.Rows L2
def rInsN : V → List V → Hp → VK → Prop := fun x vs H Q => ∃ (l : Addr) (xs : List V) (i : Int) (y : V), x = .ref l ∧ vs = [.int i, y] ∧ H l = some (.lst xs) ∧ xs.length < sizeLine ∧ 0 ≤ i ∧ i < 2 ^ 63 ∧ Q .non (upd H l (.lst (xs.take i.toNat ++ [y] ++ xs.drop i.toNat)))
theorem mt_insN {X : Cx} : MtR X "list.insert" rInsN := mt_insert
def rListN (K : PySem.W.Frag) : List V → Hp → VK → Prop := fun xs H Q => ∃ p ys, xs = [.ref p] ∧ (SqL K H p ys ∨ SqT K H p ys) ∧ ∀ l, H l = none → Q (.ref l) (upd H l (.lst ys))
theorem call_listN {X : Cx} : CallR X (.type "list") (rListN X.K) := call_list_of
def DelL (x y : V) (H : Hp) (G : Hp → Prop) : Prop := ∃ (l : Addr) (xs : List V) (i : Int) (k : Nat), x = .ref l ∧ y = .int i ∧ H l = some (.lst xs) ∧ -(2 ^ 63) ≤ i ∧ i < 2 ^ 63 ∧ seqIndex? i xs.length = some k ∧ G (upd H l (.lst (xs.eraseIdx k)))
section
variable {σ : L2.St} {H : Hp} {Q : VK} {K : PySem.W.Frag} {D : Ends} {to ti te : TE} {tl th : TO} {a b l : Addr} {xs ys : List V} {x y v : V} {QO : Option Int → Hp → Prop} {i : Int} {n : Nat}
theorem i_delS (h : to σ H fun x H1 => ti σ H1 fun y H2 => DelL x y H2 (fun H3 => D.nx σ H3)) : tDelL to ti D σ H := h
theorem i_sl {r : V → Option Int → Option Int → Hp → VK → Prop} (h : te σ H fun x H1 => tl σ H1 fun lo H2 => th σ H2 fun hi H3 => r x lo hi H3 Q) : tSl r te tl th σ H Q := h
theorem i_noPart (h : QO none H) : tNoPart σ H QO := h
def PartV (x : V) (H : Hp) (QO : Option Int → Hp → Prop) : Prop := ∃ i, x = .int i ∧ QO (some i) H
theorem i_part (h : te σ H fun x H1 => PartV x H1 QO) : tPart te σ H QO := h
theorem i_partI (h : QO (some i) H) : PartV (.int i) H QO := ⟨i, rfl, h⟩
theorem i_listL (hs : SqL K H a xs) (h : ∀ p H', H p = none → Keep [] H H' → H' p = some (.lst xs) → Q (.ref p) H') : rListN K [.ref a] H Q := ⟨a, xs, rfl, .inl hs, fun p hp => h p _ hp (Keep.new hp) upd_same⟩
theorem i_notN (h : Q (.bl (!decide (x = .non))) H) : rNotN x .non H Q := ⟨rfl, h⟩
theorem i_isN (h : Q (.bl (decide (x = .non))) H) : rIsN x .non H Q := ⟨rfl, h⟩
theorem b_intNN {A B : Prop} (h : A) : if (!decide (V.int i = V.non)) = true then A else B := by rw [if_pos (by simp)]; exact h
theorem b_intN {A B : Prop} (h : B) : if decide (V.int i = V.non) = true then A else B := by rw [if_neg (by simp)]; exact h
theorem flat_strs : ∀ ns : List Str, (ns.map V.str).all flatV = true
  | [] => rfl
  | n :: ns => by rw [List.map_cons, List.all_cons, flat_strs ns]; rfl
end
end PB
local macro_rules | `(tactic| walk_at "pb1") => `(tactic| with_reducible (first | apply PB.i_delS | apply PB.i_sl | apply PB.i_noPart | apply PB.i_part | apply PB.i_partI | apply PB.i_notN | apply PB.i_isN | apply PB.b_intNN | apply PB.b_intN))
namespace PB
open PySem PySem.Spec PyProof.Rows L2
section
variable {X : Cx} {K : PySem.W.Frag} {o e e2 l a : Expr} {es elts : List Expr} {to ta tl : TE} {t : TA} {name f x c m : Str} {apos cpos pos p tpos : Pos} {T id : String} {r : V → List V → Hp → VK → Prop} {tg : Expr} {kk n k : Nat} {CX : CXT} {ps : List Str} {dvs : List V} {sp : Sp} {W : WX}
theorem pe_bmK (pa : PlainAttrs T) (slot : Slot T name id) (hty : typeOf (.builtin id) = pure (.type "method_descriptor")) (hm : MtR X id r) (ho : PE X o to) (ha : PA X (e :: es) t)
    (hbase : attributeBase o name X.env (eval o X.env) = eval o X.env := by rfl)
    (hfew : ((backTo cpos (starEach (e :: es) X.env)).all (fun x => !x.1) && (backToKw cpos (keywordEach [] X.env)).all (fun x => x.1.isSome)
      && decide ((e :: es).length + ([] : List Keyword).length + (if ([] : List Keyword).isEmpty then 0 else 1) < 30)) = true := by rfl)
    (hline : (apos.endLine == cpos.line) = true := by rfl) (hs : starEach (e :: es) X.env = (false, eval e X.env) :: starEach es X.env := by rfl) (hplain : (backTo cpos (starEach es X.env)).any (·.1) = false := by rfl) (hK : X.K = K := by rfl) :
    PE X (.Call (.Attribute o name apos) (e :: es) [] cpos) (tBM K T r to t) := by
  subst hK
  exact pe_bm pa slot hty hm ho ha hbase hfew hline hs hplain
theorem pe_fldK (he : PE X e ta) (hb : attributeBase e f X.env (eval e X.env) = eval e X.env := by rfl) (hK : X.K = K := by rfl) : PE X (.Attribute e f pos) (tFld K ta f) := by
  subst hK
  exact pe_fld he hb
theorem ix_listK (hK : X.K = K := by rfl) : IxR X (rIxL K) := by subst hK; exact ix_list
theorem sl_listK (hK : X.K = K := by rfl) : SlR X (rSlL K) := by subst hK; exact sl_list
theorem op_inK (hK : X.K = K := by rfl) : OpR X (compareOp .In) (rIn K false) := by subst hK; exact op_in_seq
theorem call_isiK' (hK : X.K = K := by rfl) : CallR X (.builtin "isinstance") (rIsi K) := by subst hK; exact call_isi
theorem call_listK (hK : X.K = K := by rfl) : CallR X (.type "list") (rListN K) := by subst hK; exact call_listN
theorem pg_tupK {t : TGs} (n : Nat) (hc : X.calm = true) (h : PGs X es t)
    (hn : (assignEach es X.env).length = n := by rfl) (hst : (assignEach es X.env).findIdx? (·.1) = none := by rfl) (hK : X.K = K := by rfl) : PG X (.Tuple es kk pos) (gTup K n t) := by subst hK; exact pg_tup hc h hn hst
end
end PB
namespace PB
open PySem PySem.Spec PyProof.Rows L2
structure EntI (e : DictEntry) (q : Int × Int) : Prop where
  key : ∃ t, e.key = .int q.1 t
  hash : e.hash = hashInt q.1
  val : ∃ t, e.val = .int q.2 t
inductive EntsI : List DictEntry → List (Int × Int) → Prop
  | nil : EntsI [] []
  | cons {e : DictEntry} {q : Int × Int} {es : List DictEntry} {qs : List (Int × Int)} (h : EntI e q) (r : EntsI es qs) : EntsI (e :: es) (q :: qs)
/-- at d: a written dict of these -/
def KInt (K : PySem.W.Frag) (d : Addr) (qs : List (Int × Int)) : Prop := ∃ es n, K.lookup d = some ⟨.type "dict", none, .dict es n, #[]⟩ ∧ EntsI es.toList qs ∧ (d == sysModules) = false
theorem find_I {k : Int} : ∀ {es : List DictEntry} {qs : List (Int × Int)}, EntsI es qs → (qs.lookup k = none → (es.find? fun e => Value.isInt k e.key) = none) ∧ ∀ j, qs.lookup k = some j → ∃ t, ((es.find? fun e => Value.isInt k e.key).map (·.val)) = some (.int j t)
  | [], [], _ => ⟨fun _ => rfl, fun _ h => by cases h⟩
  | e :: es, q :: qs, .cons h r => by
    obtain ⟨i1, i2⟩ := find_I (k := k) r
    obtain ⟨t, hk⟩ := h.key
    obtain ⟨u, hv⟩ := h.val
    have e1 : Value.isInt k e.key = (q.1 == k) := by rw [hk]; rfl
    rw [List.find?_cons, e1]
    obtain ⟨a, b⟩ := q
    rw [List.lookup_cons]
    by_cases hq : a = k
    · subst hq
      simp only [beq_self_eq_true]
      refine ⟨fun z => (by cases z), fun j z => ⟨u, ?_⟩⟩
      cases z
      rw [Option.map_some, hv]
    · have h1 : (a == k) = false := by simpa using hq
      have h2 : (k == a) = false := by simpa using fun z : k = a => hq z.symm
      simp only [h1, h2]
      exact ⟨i1, i2⟩
section
variable {X : Cx} {d : Addr} {qs : List (Int × Int)}
theorem KInt.map {K : PySem.W.Frag} {h : Heap} (D : KInt K d qs) (kin : K.In h) (prog : Program) (w : World) : ∃ f : Int → Option Value, h.MapOf (intKind prog w) d f ∧ (∀ k, qs.lookup k = none → f k = none) ∧ (∀ k j, qs.lookup k = some j → ∃ t, f k = some (.int j t)) ∧ (d == sysModules) = false := by
  obtain ⟨es, n, hl, he, low⟩ := D
  have key : ∀ {l : List DictEntry} {qs : List (Int × Int)}, EntsI l qs → ∀ e ∈ l, ∃ k, (intKind prog w).is k e.key = true ∧ e.hash = (intKind prog w).hash k := by
    intro l qs h
    induction h with
    | nil => intro e he; cases he
    | cons h r ih =>
      intro e he
      rcases List.mem_cons.mp he with rfl | he
      · obtain ⟨t, hk⟩ := h.key
        exact ⟨_, by rw [hk]; exact intKind_is prog w _ t, h.hash⟩
      · exact ih e he
  refine ⟨fun k => findBy Value.isInt es k, ⟨_, es, n, kin _ _ hl, ⟨rfl, rfl, rfl⟩, rfl, fun e hm => key he e (Array.mem_toList_iff.mpr hm), fun _ => rfl⟩, fun k hk => ?_, fun k j hk => ?_, low⟩
  · obtain ⟨l⟩ := es
    show Option.map _ (Array.find? _ _) = none
    rw [List.find?_toArray, (find_I he).1 hk]
    rfl
  · obtain ⟨l⟩ := es
    obtain ⟨t, e⟩ := (find_I he).2 j hk
    refine ⟨t, ?_⟩
    show Option.map _ (Array.find? _ _) = _
    rw [List.find?_toArray]
    exact e
end
end PB
namespace PB
open PySem PySem.Spec PyProof.Rows L2
def SqE (K : PySem.W.Frag) (H : Hp) (a : Addr) (xs : List V) : Prop := SqL K H a xs ∨ SqT K H a xs
theorem SqE.keep {K : PySem.W.Frag} {ms : List Addr} {H H' : Hp} {a : Addr} {xs : List V} (h : SqE K H a xs) (k : Keep ms H H') (ha : a ∉ ms) : SqE K H' a xs := h.elim (fun h => .inl (k.seqL ha h)) fun h => .inr (k.seqT h)
def ItE (K : PySem.W.Frag) (R : It → Hp → Prop) (x : V) (H : Hp) : Prop := ItL K R x H ∨ ItT K R x H
def iSeq (K : PySem.W.Frag) (tl : TE) : TI := fun σ H R => tl σ H fun x H1 => ItE K R x H1
section
variable {X : Cx} {K : PySem.W.Frag} {tg : Expr}
theorem pi_seqK {l : Expr} {tl : TE} (hl : PE X l tl) (hK : X.K = K := by rfl) : PI X tg l (iSeq K tl) := by
  subst hK
  refine ⟨fun pins s σ H R I h => ?_⟩
  refine thn (hl.run pins s σ H _ I h) fun v s1 ⟨x, H1, I1, r1, q1⟩ => ?_
  rcases q1 with ⟨a, e, ⟨xs, hq⟩, q⟩ | ⟨a, e, ⟨xs, hq⟩, q⟩
  · subst e
    cases r1
    obtain ⟨its, rv, p, hz⟩ := I1.list hq
    refine wpAny_pyIter_list p.isList ?_
    refine ⟨s1.heap.objs.size, [s1.heap.objs.size], _, _, H1, rfl, I1.kept (t' := s1.toks) fun b o e => Heap.get?_push_of_some _ e, turn_list a _, ⟨_, Heap.get?_push_size _ rfl, rfl, rfl⟩, fun b hb => ?_, q⟩
    have e : b = s1.heap.objs.size := by simpa using hb
    subst e
    exact I1.fpOk (Nat.le_refl _) (I1.hok.fresh (Nat.le_refl _))
  · subst e
    cases r1
    obtain ⟨its, rv, p, hz⟩ := I1.tuple hq
    refine wpAny_pyIter_tuple (show s1.heap.IsTuple a its.toArray from p) ?_
    refine ⟨s1.heap.objs.size, [s1.heap.objs.size], _, _, H1, rfl, I1.kept (t' := s1.toks) fun b o e => Heap.get?_push_of_some _ e, turn_tuple a _, ⟨_, Heap.get?_push_size _ rfl, rfl, rfl⟩, fun b hb => ?_, q⟩
    have e : b = s1.heap.objs.size := by simpa using hb
    subst e
    exact I1.fpOk (Nat.le_refl _) (I1.hok.fresh (Nat.le_refl _))
end
section
variable {σ : L2.St} {H : Hp} {Q : VK} {K : PySem.W.Frag} {a : Addr} {xs : List V} {v : V} {ta : TE} {R : It → Hp → Prop} {g : TG} {tt : TT} {te : TE} {vs : List Nat} {D : Ends} {tb : TS}
theorem i_iSeq (h : ta σ H fun x H1 => ItE K R x H1) : iSeq K ta σ H R := h
end
end PB
local macro_rules | `(tactic| walk_at "pb1") => `(tactic| with_reducible (first | apply PB.i_iSeq))
namespace DL
open PySem PySem.Spec PyProof.Rows L2 PB
inductive D where
  | non | bl (b : Bool) | int (i : Int) | str (s : Str) | ty (n : String) | fn (x : Str)
  | tup (ds : List D)
  | lst (o : Bool) (ds : List D)
  | ins (o : Bool) (c : Str) (ns : List Str) (ds : List D)
  | dic (o : Bool) (ks : List D) (ds : List D)
  | spring (n : Nat)
  | script
  /-- a list whose items may own things; a value of which nothing is told -/
  | box (ds : List D)
  /-- a dict with text keys whose values may own things -/
  | reco (ns : List Str) (ds : List D)
  | val (u : V)
  /-- an error that an except clause holds: its object, class, own dict; what its fields hold -/
  | exc (a : Addr) (cls : Value) (d : Option Addr) (ns : List Str) (ds : List D)
abbrev CK := NestedKey
mutual
/-- the key of an atom or a tuple: a bool counts as an int -/
def D.ck : D → Option CK
  | .non => some .none
  | .bl b => some (.num (if b = true then 1 else 0))
  | .int i => some (.num i)
  | .str s => some (.text s)
  | .tup ds => (D.ckA ds).map .tup
  | _ => none
def D.ckA : List D → Option (List CK)
  | [] => some []
  | d :: ds => match D.ck d, D.ckA ds with
    | some k, some ks => some (k :: ks)
    | _, _ => none
end
mutual
def D.freeze : D → D
  | .tup ds => .tup (D.freezeA ds)
  | .lst _ ds => .lst false ds
  | .ins true c ns ds => .ins false c ns (D.freezeA ds)
  | .ins false c ns ds => .ins false c ns ds
  | .dic _ ks ds => .dic false ks ds
  | .non => .non
  | .bl b => .bl b
  | .int i => .int i
  | .str s => .str s
  | .ty n => .ty n
  | .fn x => .fn x
  | .spring n => .spring n
  | .script => .script
  | .box ds => .lst false (D.freezeA ds)
  | .reco ns ds => .dic false (ns.map .str) (D.freezeA ds)
  | .val u => .val u
  | .exc a c d ns ds => .exc a c d ns ds
def D.freezeA : List D → List D
  | [] => []
  | d :: ds => D.freeze d :: D.freezeA ds
end
theorem D.freezeA_map : ∀ ds : List D, D.freezeA ds = ds.map D.freeze
  | [] => rfl
  | d :: ds => by rw [D.freezeA, D.freezeA_map ds, List.map_cons]
/-- the written part and the world -/
structure Bs where
  K : PySem.W.Frag
  w : World
/-- a dict whose keys are tuples: its object -/
def dphi (w : World) (a : Addr) (es : List (CK × Addr × V)) (h : Heap) : Prop :=
  ∃ o tb ep, h.get? a = some o ∧ o.ExactDict ∧ o.data = .dict tb ep ∧ Paired (fun (p : CK × Addr × V) (e : DictEntry) => e.hash = NestedKey.hash w p.1 ∧ e.key = .ref p.2.1 ∧ RelV p.2.2 e.val) es tb.toList
section
variable (B : Bs) (A : Addr → Prop) (H : Hp)
mutual
/-- an atom or a tuple of such, whatever is owned -/
def KeyR : D → V → Prop
  | .non, v => v = .non
  | .bl b, v => v = .bl b
  | .int i, v => v = .int i
  | .str s, v => v = .str s
  | .tup ds, v => ∃ a vs, v = .ref a ∧ SqT B.K H a vs ∧ KeyRA ds vs
  | _, _ => False
def KeyRA : List D → List V → Prop
  | [], vs => vs = []
  | d :: ds, vs => ∃ v vr, vs = v :: vr ∧ KeyR d v ∧ KeyRA ds vr
end
def kD : Key → D
  | .inl i => .int i
  | .inr s => .str s
/-- the thing at a is not locked -/
def NoFz (a : Addr) : Prop := ∀ o u, H a ≠ some (.frz o u)
/-- at a: a dict with these keys and values -/
def DicAt (a : Addr) (ks : List D) (vs : List V) : Prop :=
  (∃ kk : List Key, ks = kk.map kD ∧ kk.Nodup ∧ kk.length = vs.length ∧ Rd H a (.dK (kk.zip vs))) ∨
  (∃ es : List (CK × Addr × V), Rd H a (.ext (dphi B.w a es)) ∧ (es.map (·.1)).Nodup ∧ es.length ≤ sizeLine ∧ vs = es.map (·.2.2) ∧ (a == sysModules) = false ∧
    Paired (fun (d : D) (p : CK × Addr × V) => KeyR B H d (.ref p.2.1) ∧ d.ck = some p.1 ∧ p.1.depth ≤ 8) ks es)
/-- the script -/
def ScriptAt (v : V) : Prop := ∃ (a : Addr) (ns : List Int), v = .ref a ∧ ns.length ≤ 63 ∧ ((Rd H a (.lst (ns.map V.int)) ∧ ¬ A a) ∨ SqL B.K (fun _ => none) a (ns.map V.int))
mutual
/-- v is d; f: the places that d owns -/
def Rp : D → V → List Addr → Prop
  | .non, v, f => v = .non ∧ f = []
  | .bl b, v, f => v = .bl b ∧ f = []
  | .int i, v, f => v = .int i ∧ f = []
  | .str s, v, f => v = .str s ∧ f = []
  | .ty n, v, f => v = .ty n ∧ f = []
  | .fn x, v, f => v = .ref (He.ga B.K x) ∧ f = []
  | .tup ds, v, f => ∃ a vs, v = .ref a ∧ SqT B.K H a vs ∧ RpA ds vs f
  | .lst o ds, v, f => ∃ a vs, v = .ref a ∧ RpA ds vs [] ∧ (match o with
    | true => H a = some (.lst vs) ∧ A a ∧ f = [a]
    | false => H a = some (.lst vs) ∧ ¬ A a ∧ f = [])
  | .ins o c ns ds, v, f => ∃ a dx vs g, v = .ref a ∧ RpA ds vs g ∧ H a = some (.ins (He.ga B.K c) dx (ns.zip vs)) ∧ ns.length = ds.length ∧ (match o with
    | true => A a ∧ f = a :: g
    | false => ¬ A a ∧ f = [] ∧ g = [])
  | .dic o ks ds, v, f => ∃ a vs, v = .ref a ∧ RpA ds vs [] ∧ DicAt B H a ks vs ∧ (match o with
    | true => A a ∧ f = [a] ∧ NoFz H a
    | false => ¬ A a ∧ f = [])
  | .spring n, v, f => ∃ S l, v = .ref S ∧ f = [S, l] ∧ A S ∧ A l ∧ Stm S l n H
  | .script, v, f => ScriptAt B A H v ∧ f = []
  | .box ds, v, f => ∃ a vs g, v = .ref a ∧ RpA ds vs g ∧ H a = some (.lst vs) ∧ A a ∧ f = a :: g
  | .reco ns ds, v, f => ∃ a vs g, v = .ref a ∧ RpA ds vs g ∧ H a = some (.dK ((ns.map (Sum.inr : Str → Key)).zip vs)) ∧ ns.length = ds.length ∧ ns.Nodup ∧ A a ∧ f = a :: g
  | .val u, v, f => v = u ∧ f = []
  | .exc a _ d ns ds, v, f => v = .ref a ∧ f = [] ∧ ∃ vs, RpA ds vs [] ∧ ∀ b, d = some b → H b = some (.xd (ns.zip vs)) ∧ ns.length = ds.length ∧ ¬ A b
def RpA : List D → List V → List Addr → Prop
  | [], vs, f => vs = [] ∧ f = []
  | d :: ds, vs, f => ∃ v vr g h, vs = v :: vr ∧ f = g ++ h ∧ Rp d v g ∧ RpA ds vr h
end
end
/-- from one moment to a later one: F is what the holder owns, A all that anyone owns -/
structure Step (A : Addr → Prop) (F : List Addr) (H : Hp) (A' : Addr → Prop) (F' : List Addr) (H' : Hp) : Prop where
  keep : Keep F H H'
  fo : ∀ a ∈ F', a ∈ F ∨ H a = none
  ao : ∀ a, A' a → A a ∨ H a = none
  ak : ∀ a, A a → a ∉ F → A' a
theorem Step.refl (A : Addr → Prop) (F : List Addr) (H : Hp) : Step A F H A F H := ⟨.refl _, fun _ h => .inl h, fun _ h => .inl h, fun _ h _ => h⟩
section
variable {B : Bs} {A A' A'' : Addr → Prop} {F F' F'' : List Addr} {H H' H'' : Hp}
theorem Step.trans (al : ∀ a, A a → H a ≠ none) (fa : ∀ a ∈ F, A a) (s : Step A F H A' F' H') (t : Step A' F' H' A'' F'' H'') : Step A F H A'' F'' H'' where
  keep := by
    refine ⟨fun b o n e => ?_, fun b o i e => t.keep.imm b o i (s.keep.imm b o i e)⟩
    refine t.keep.at_ b o (fun z => ?_) (s.keep.at_ b o n e)
    rcases s.fo b z with z | z
    · exact n z
    · rw [e] at z; cases z
  fo := fun a h => by
    rcases t.fo a h with h | h
    · exact s.fo a h
    · by_cases hf : a ∈ F
      · exact .inl hf
      · refine .inr ?_
        cases e : H a with
        | none => rfl
        | some o => rw [s.keep.at_ a o hf e] at h; cases h
  ao := fun a h => by
    rcases t.ao a h with h | h
    · exact s.ao a h
    · by_cases hf : a ∈ F
      · exact .inl (fa a hf)
      · refine .inr ?_
        cases e : H a with
        | none => rfl
        | some o => rw [s.keep.at_ a o hf e] at h; cases h
  ak := fun a h n => t.ak a (s.ak a h n) fun z => by
    rcases s.fo a z with z | z
    · exact n z
    · exact al a h z
mutual
theorem KeyR.imm (hk : Keep F H H') : ∀ (d : D) (v : V), KeyR B H d v → KeyR B H' d v
  | .non, _, h => by rw [KeyR] at h ⊢; exact h
  | .bl _, _, h => by rw [KeyR] at h ⊢; exact h
  | .int _, _, h => by rw [KeyR] at h ⊢; exact h
  | .str _, _, h => by rw [KeyR] at h ⊢; exact h
  | .tup ds, _, h => by
    rw [KeyR] at h ⊢
    obtain ⟨a, vs, e, s, q⟩ := h
    exact ⟨a, vs, e, hk.seqT s, KeyRA.imm hk ds vs q⟩
  | .ty _, _, h => by rw [KeyR] at h <;> first | exact h.elim | simp
  | .fn _, _, h => by rw [KeyR] at h <;> first | exact h.elim | simp
  | .lst _ _, _, h => by rw [KeyR] at h <;> first | exact h.elim | simp
  | .ins _ _ _ _, _, h => by rw [KeyR] at h <;> first | exact h.elim | simp
  | .dic _ _ _, _, h => by rw [KeyR] at h <;> first | exact h.elim | simp
  | .spring _, _, h => by rw [KeyR] at h <;> first | exact h.elim | simp
  | .script, _, h => by rw [KeyR] at h <;> first | exact h.elim | simp
  | .box _, _, h => by rw [KeyR] at h <;> first | exact h.elim | simp
  | .reco _ _, _, h => by rw [KeyR] at h <;> first | exact h.elim | simp
  | .val _, _, h => by rw [KeyR] at h <;> first | exact h.elim | simp
  | .exc _ _ _ _ _, _, h => by rw [KeyR] at h <;> first | exact h.elim | simp
theorem KeyRA.imm (hk : Keep F H H') : ∀ (ds : List D) (vs : List V), KeyRA B H ds vs → KeyRA B H' ds vs
  | [], _, h => by rw [KeyRA] at h ⊢; exact h
  | d :: ds, _, h => by
    rw [KeyRA] at h ⊢
    obtain ⟨v, vr, e, p, q⟩ := h
    exact ⟨v, vr, e, KeyR.imm hk d v p, KeyRA.imm hk ds vr q⟩
end
theorem Rd.keep' {a : Addr} {u : HO} (hk : Keep F H H') (ha : a ∉ F) (h : Rd H a u) : Rd H' a u := by
  rcases h with h | ⟨o, h⟩
  · exact .inl (hk.at_ _ _ ha h)
  · exact .inr ⟨o, hk.at_ _ _ ha h⟩
theorem Rd.ne {a : Addr} {u : HO} (h : Rd H a u) : H a ≠ none := by
  rcases h with h | ⟨o, h⟩ <;> rw [h] <;> simp
theorem DicAt.keep {a : Addr} {ks : List D} {vs : List V} (hk : Keep F H H') (ha : a ∉ F) (h : DicAt B H a ks vs) : DicAt B H' a ks vs := by
  rcases h with ⟨kk, e1, e2, e3, e4⟩ | ⟨es, e1, e2, ez, e3, e4, e5⟩
  · exact .inl ⟨kk, e1, e2, e3, Rd.keep' hk ha e4⟩
  · exact .inr ⟨es, Rd.keep' hk ha e1, e2, ez, e3, e4, Paired.mapP e5 fun d p z => ⟨KeyR.imm hk _ _ z.1, z.2⟩⟩
theorem DicAt.ne {a : Addr} {ks : List D} {vs : List V} (h : DicAt B H a ks vs) : H a ≠ none := by
  rcases h with ⟨kk, e1, e2, e3, e4⟩ | ⟨es, e1, _⟩
  · exact Rd.ne e4
  · exact Rd.ne e1
theorem NoFz.keep {a : Addr} (hk : Keep F H H') (ha : a ∉ F) (hn : H a ≠ none) (h : NoFz H a) : NoFz H' a := fun o u e => by
  cases q : H a with
  | none => exact hn q
  | some x =>
    rw [hk.at_ a x ha q] at e
    cases e
    exact h o u q
/-- what is told of a value stays, if none of its owned places is F's -/
structure Stays (A : Addr → Prop) (F : List Addr) (H : Hp) (A' : Addr → Prop) (H' : Hp) : Prop where
  keep : Keep F H H'
  fa : ∀ a ∈ F, A a
  ao : ∀ a, A' a → A a ∨ H a = none
  ak : ∀ a, A a → a ∉ F → A' a
theorem ScriptAt.stay {v : V} (s : Stays A F H A' H') (h : ScriptAt B A H v) : ScriptAt B A' H' v := by
  obtain ⟨a, ns, e, hl, q⟩ := h
  refine ⟨a, ns, e, hl, q.imp (fun q => ?_) id⟩
  have hf : a ∉ F := fun z => q.2 (s.fa a z)
  exact ⟨Rd.keep' s.keep hf q.1, fun z => (s.ao a z).elim q.2 (Rd.ne q.1)⟩
mutual
theorem Rp.stay (s : Stays A F H A' H') : ∀ (d : D) (v : V) (f : List Addr), (∀ a ∈ f, a ∉ F) → Rp B A H d v f → Rp B A' H' d v f
  | .non, _, _, _, h => by rw [Rp] at h ⊢; exact h
  | .bl _, _, _, _, h => by rw [Rp] at h ⊢; exact h
  | .int _, _, _, _, h => by rw [Rp] at h ⊢; exact h
  | .str _, _, _, _, h => by rw [Rp] at h ⊢; exact h
  | .ty _, _, _, _, h => by rw [Rp] at h ⊢; exact h
  | .fn _, _, _, _, h => by rw [Rp] at h ⊢; exact h
  | .tup ds, _, f, n, h => by
    rw [Rp] at h ⊢
    obtain ⟨a, vs, e, q, r⟩ := h
    exact ⟨a, vs, e, s.keep.seqT q, RpA.stay s ds vs f n r⟩
  | .lst o ds, _, f, n, h => by
    rw [Rp] at h ⊢
    obtain ⟨a, vs, e, r, q⟩ := h
    cases o with
    | true =>
      obtain ⟨q1, q2, rfl⟩ := q
      have ha : a ∉ F := n a (List.mem_cons_self ..)
      exact ⟨a, vs, e, RpA.stay s ds vs [] (fun b hb => by cases hb) r, s.keep.at_ _ _ ha q1, s.ak a q2 ha, rfl⟩
    | false =>
      obtain ⟨q1, q2, rfl⟩ := q
      have ha : a ∉ F := fun z => q2 (s.fa a z)
      exact ⟨a, vs, e, RpA.stay s ds vs [] (fun b hb => by cases hb) r, s.keep.at_ _ _ ha q1, fun z => (s.ao a z).elim q2 (by rw [q1]; simp), rfl⟩
  | .ins o c ns ds, _, f, n, h => by
    rw [Rp] at h ⊢
    obtain ⟨a, dx, vs, g, e, r, q0, ql, q⟩ := h
    cases o with
    | true =>
      obtain ⟨q2, rfl⟩ := q
      have ha : a ∉ F := n a (List.mem_cons_self ..)
      exact ⟨a, dx, vs, g, e, RpA.stay s ds vs g (fun b hb => n b (List.mem_cons_of_mem _ hb)) r, s.keep.at_ _ _ ha q0, ql, s.ak a q2 ha, rfl⟩
    | false =>
      obtain ⟨q2, rfl, rfl⟩ := q
      have ha : a ∉ F := fun z => q2 (s.fa a z)
      exact ⟨a, dx, vs, [], e, RpA.stay s ds vs [] (fun b hb => by cases hb) r, s.keep.at_ _ _ ha q0, ql, fun z => (s.ao a z).elim q2 (by rw [q0]; simp), rfl, rfl⟩
  | .dic o ks ds, _, f, n, h => by
    rw [Rp] at h ⊢
    obtain ⟨a, vs, e, r, q0, q⟩ := h
    cases o with
    | true =>
      obtain ⟨q2, rfl, nf⟩ := q
      have ha : a ∉ F := n a (List.mem_cons_self ..)
      exact ⟨a, vs, e, RpA.stay s ds vs [] (fun b hb => by cases hb) r, q0.keep s.keep ha, s.ak a q2 ha, rfl, nf.keep s.keep ha q0.ne⟩
    | false =>
      obtain ⟨q2, rfl⟩ := q
      have ha : a ∉ F := fun z => q2 (s.fa a z)
      exact ⟨a, vs, e, RpA.stay s ds vs [] (fun b hb => by cases hb) r, q0.keep s.keep ha, fun z => (s.ao a z).elim q2 q0.ne, rfl⟩
  | .spring m, _, f, n, h => by
    rw [Rp] at h ⊢
    obtain ⟨S, l, e, rfl, q1, q2, q3⟩ := h
    have h1 : S ∉ F := n S (by simp)
    have h2 : l ∉ F := n l (by simp)
    exact ⟨S, l, e, rfl, s.ak S q1 h1, s.ak l q2 h2, q3.keep s.keep h1 h2⟩
  | .script, _, f, n, h => by
    rw [Rp] at h ⊢
    exact ⟨ScriptAt.stay s h.1, h.2⟩
  | .box ds, _, f, n, h => by
    rw [Rp] at h ⊢
    obtain ⟨a, vs, g, e, r, q0, q2, rfl⟩ := h
    have ha : a ∉ F := n a (List.mem_cons_self ..)
    exact ⟨a, vs, g, e, RpA.stay s ds vs g (fun b hb => n b (List.mem_cons_of_mem _ hb)) r, s.keep.at_ _ _ ha q0, s.ak a q2 ha, rfl⟩
  | .reco ns ds, _, f, n, h => by
    rw [Rp] at h ⊢
    obtain ⟨a, vs, g, e, r, q0, ql, qn, q2, rfl⟩ := h
    have ha : a ∉ F := n a (List.mem_cons_self ..)
    exact ⟨a, vs, g, e, RpA.stay s ds vs g (fun b hb => n b (List.mem_cons_of_mem _ hb)) r, s.keep.at_ _ _ ha q0, ql, qn, s.ak a q2 ha, rfl⟩
  | .val _, _, _, _, h => by rw [Rp] at h ⊢; exact h
  | .exc _ _ _ ns ds, _, f, n, h => by
    rw [Rp] at h ⊢
    obtain ⟨e1, e2, vs, r, q⟩ := h
    refine ⟨e1, e2, vs, RpA.stay s ds vs [] (fun b hb => by cases hb) r, fun b hb => ?_⟩
    obtain ⟨q1, q2, q3⟩ := q b hb
    have hF : b ∉ F := fun z => q3 (s.fa b z)
    exact ⟨s.keep.at_ _ _ hF q1, q2, fun z => (s.ao b z).elim q3 (by rw [q1]; simp)⟩
theorem RpA.stay (s : Stays A F H A' H') : ∀ (ds : List D) (vs : List V) (f : List Addr), (∀ a ∈ f, a ∉ F) → RpA B A H ds vs f → RpA B A' H' ds vs f
  | [], _, _, _, h => by rw [RpA] at h ⊢; exact h
  | d :: ds, _, f, n, h => by
    rw [RpA] at h ⊢
    obtain ⟨v, vr, g, k, e, rfl, p, q⟩ := h
    exact ⟨v, vr, g, k, e, rfl, Rp.stay s d v g (fun a ha => n a (List.mem_append_left _ ha)) p, RpA.stay s ds vr k (fun a ha => n a (List.mem_append_right _ ha)) q⟩
end
mutual
/-- what is owned is in A -/
theorem Rp.own : ∀ (d : D) (v : V) (f : List Addr), Rp B A H d v f → ∀ a ∈ f, A a ∧ H a ≠ none
  | .non, _, _, h => by rw [Rp] at h; obtain ⟨_, rfl⟩ := h; simp
  | .bl _, _, _, h => by rw [Rp] at h; obtain ⟨_, rfl⟩ := h; simp
  | .int _, _, _, h => by rw [Rp] at h; obtain ⟨_, rfl⟩ := h; simp
  | .str _, _, _, h => by rw [Rp] at h; obtain ⟨_, rfl⟩ := h; simp
  | .ty _, _, _, h => by rw [Rp] at h; obtain ⟨_, rfl⟩ := h; simp
  | .fn _, _, _, h => by rw [Rp] at h; obtain ⟨_, rfl⟩ := h; simp
  | .tup ds, _, f, h => by
    rw [Rp] at h
    obtain ⟨a, vs, e, q, r⟩ := h
    exact RpA.own ds vs f r
  | .lst o ds, _, f, h => by
    rw [Rp] at h
    obtain ⟨a, vs, e, r, q⟩ := h
    cases o with
    | true =>
      obtain ⟨q1, q2, rfl⟩ := q
      intro b hb
      rcases List.mem_cons.mp hb with rfl | hb
      · exact ⟨q2, by rw [q1]; simp⟩
      · cases hb
    | false =>
      obtain ⟨q1, q2, rfl⟩ := q
      simp
  | .ins o c ns ds, _, f, h => by
    rw [Rp] at h
    obtain ⟨a, dx, vs, g, e, r, q0, ql, q⟩ := h
    cases o with
    | true =>
      obtain ⟨q2, rfl⟩ := q
      intro b hb
      rcases List.mem_cons.mp hb with rfl | hb
      · exact ⟨q2, by rw [q0]; simp⟩
      · exact RpA.own ds vs g r b hb
    | false =>
      obtain ⟨q2, rfl, rfl⟩ := q
      simp
  | .dic o ks ds, _, f, h => by
    rw [Rp] at h
    obtain ⟨a, vs, e, r, q0, q⟩ := h
    cases o with
    | true =>
      obtain ⟨q2, rfl, _⟩ := q
      intro b hb
      rcases List.mem_cons.mp hb with rfl | hb
      · exact ⟨q2, q0.ne⟩
      · cases hb
    | false =>
      obtain ⟨q2, rfl⟩ := q
      simp
  | .spring m, _, f, h => by
    rw [Rp] at h
    obtain ⟨S, l, e, rfl, q1, q2, ⟨_, _, _, _, _, _, q3, q4, _⟩⟩ := h
    intro b hb
    rcases List.mem_cons.mp hb with rfl | hb
    · exact ⟨q1, by rw [q3]; simp⟩
    · rcases List.mem_cons.mp hb with rfl | hb
      · exact ⟨q2, by rw [q4]; simp⟩
      · cases hb
  | .script, _, _, h => by rw [Rp] at h; obtain ⟨_, rfl⟩ := h; simp
  | .box ds, _, f, h => by
    rw [Rp] at h
    obtain ⟨a, vs, g, e, r, q0, q2, rfl⟩ := h
    intro b hb
    rcases List.mem_cons.mp hb with rfl | hb
    · exact ⟨q2, by rw [q0]; simp⟩
    · exact RpA.own ds vs g r b hb
  | .reco ns ds, _, f, h => by
    rw [Rp] at h
    obtain ⟨a, vs, g, e, r, q0, ql, qn, q2, rfl⟩ := h
    intro b hb
    rcases List.mem_cons.mp hb with rfl | hb
    · exact ⟨q2, by rw [q0]; simp⟩
    · exact RpA.own ds vs g r b hb
  | .val _, _, _, h => by rw [Rp] at h; obtain ⟨_, rfl⟩ := h; simp
  | .exc _ _ _ _ _, _, _, h => by rw [Rp] at h; obtain ⟨_, rfl, _⟩ := h; simp
theorem RpA.own : ∀ (ds : List D) (vs : List V) (f : List Addr), RpA B A H ds vs f → ∀ a ∈ f, A a ∧ H a ≠ none
  | [], _, _, h => by rw [RpA] at h; obtain ⟨_, rfl⟩ := h; simp
  | d :: ds, _, f, h => by
    rw [RpA] at h
    obtain ⟨v, vr, g, k, e, rfl, p, q⟩ := h
    intro a ha
    rcases List.mem_append.mp ha with ha | ha
    · exact Rp.own d v g p a ha
    · exact RpA.own ds vr k q a ha
end
mutual
def D.mayFreeze : D → Bool
  | .tup ds => D.mayFreezeA ds
  | .ins true _ _ ds => D.mayFreezeA ds
  | .spring _ => false
  | .box ds => D.mayFreezeA ds
  | .reco _ ds => D.mayFreezeA ds
  | .val _ => false
  | _ => true
def D.mayFreezeA : List D → Bool
  | [] => true
  | d :: ds => D.mayFreeze d && D.mayFreezeA ds
end
/-- A without f -/
def Less (A : Addr → Prop) (f : List Addr) : Addr → Prop := fun a => A a ∧ a ∉ f
mutual
/-- what owns nothing of g0 stays when g0 is given up -/
theorem Rp.less (g0 : List Addr) : ∀ (d : D) (v : V) (f : List Addr), (∀ a ∈ f, a ∉ g0) → Rp B A H d v f → Rp B (Less A g0) H d v f
  | .non, _, _, _, h => by rw [Rp] at h ⊢; exact h
  | .bl _, _, _, _, h => by rw [Rp] at h ⊢; exact h
  | .int _, _, _, _, h => by rw [Rp] at h ⊢; exact h
  | .str _, _, _, _, h => by rw [Rp] at h ⊢; exact h
  | .ty _, _, _, _, h => by rw [Rp] at h ⊢; exact h
  | .fn _, _, _, _, h => by rw [Rp] at h ⊢; exact h
  | .tup ds, _, f, n, h => by
    rw [Rp] at h ⊢
    obtain ⟨a, vs, e, q, r⟩ := h
    exact ⟨a, vs, e, q, RpA.less g0 ds vs f n r⟩
  | .lst o ds, _, f, n, h => by
    rw [Rp] at h ⊢
    obtain ⟨a, vs, e, r, q⟩ := h
    cases o with
    | true =>
      obtain ⟨q1, q2, rfl⟩ := q
      exact ⟨a, vs, e, RpA.less g0 ds vs [] (fun b hb => by cases hb) r, q1, ⟨q2, n a (List.mem_cons_self ..)⟩, rfl⟩
    | false =>
      obtain ⟨q1, q2, rfl⟩ := q
      exact ⟨a, vs, e, RpA.less g0 ds vs [] (fun b hb => by cases hb) r, q1, fun z => q2 z.1, rfl⟩
  | .ins o c ns ds, _, f, n, h => by
    rw [Rp] at h ⊢
    obtain ⟨a, dx, vs, g, e, r, q0, ql, q⟩ := h
    cases o with
    | true =>
      obtain ⟨q2, rfl⟩ := q
      exact ⟨a, dx, vs, g, e, RpA.less g0 ds vs g (fun b hb => n b (List.mem_cons_of_mem _ hb)) r, q0, ql, ⟨q2, n a (List.mem_cons_self ..)⟩, rfl⟩
    | false =>
      obtain ⟨q2, rfl, rfl⟩ := q
      exact ⟨a, dx, vs, [], e, RpA.less g0 ds vs [] (fun b hb => by cases hb) r, q0, ql, fun z => q2 z.1, rfl, rfl⟩
  | .dic o ks ds, _, f, n, h => by
    rw [Rp] at h ⊢
    obtain ⟨a, vs, e, r, q0, q⟩ := h
    cases o with
    | true =>
      obtain ⟨q2, rfl, nf⟩ := q
      exact ⟨a, vs, e, RpA.less g0 ds vs [] (fun b hb => by cases hb) r, q0, ⟨q2, n a (List.mem_cons_self ..)⟩, rfl, nf⟩
    | false =>
      obtain ⟨q2, rfl⟩ := q
      exact ⟨a, vs, e, RpA.less g0 ds vs [] (fun b hb => by cases hb) r, q0, fun z => q2 z.1, rfl⟩
  | .spring m, _, f, n, h => by
    rw [Rp] at h ⊢
    obtain ⟨S, l, e, rfl, q1, q2, q3⟩ := h
    exact ⟨S, l, e, rfl, ⟨q1, n S (by simp)⟩, ⟨q2, n l (by simp)⟩, q3⟩
  | .script, _, f, n, h => by
    rw [Rp] at h ⊢
    obtain ⟨⟨a, ns, e, hl, q⟩, e2⟩ := h
    exact ⟨⟨a, ns, e, hl, q.imp (fun q => ⟨q.1, fun z => q.2 z.1⟩) id⟩, e2⟩
  | .box ds, _, f, n, h => by
    rw [Rp] at h ⊢
    obtain ⟨a, vs, g, e, r, q0, q2, rfl⟩ := h
    exact ⟨a, vs, g, e, RpA.less g0 ds vs g (fun b hb => n b (List.mem_cons_of_mem _ hb)) r, q0, ⟨q2, n a (List.mem_cons_self ..)⟩, rfl⟩
  | .reco ns ds, _, f, n, h => by
    rw [Rp] at h ⊢
    obtain ⟨a, vs, g, e, r, q0, ql, qn, q2, rfl⟩ := h
    exact ⟨a, vs, g, e, RpA.less g0 ds vs g (fun b hb => n b (List.mem_cons_of_mem _ hb)) r, q0, ql, qn, ⟨q2, n a (List.mem_cons_self ..)⟩, rfl⟩
  | .val _, _, _, _, h => by rw [Rp] at h ⊢; exact h
  | .exc _ _ _ ns ds, _, f, n, h => by
    rw [Rp] at h ⊢
    obtain ⟨e1, e2, vs, r, q⟩ := h
    exact ⟨e1, e2, vs, RpA.less g0 ds vs [] (fun b hb => by cases hb) r, fun b hb => ⟨(q b hb).1, (q b hb).2.1, fun z => (q b hb).2.2 z.1⟩⟩
theorem RpA.less (g0 : List Addr) : ∀ (ds : List D) (vs : List V) (f : List Addr), (∀ a ∈ f, a ∉ g0) → RpA B A H ds vs f → RpA B (Less A g0) H ds vs f
  | [], _, _, _, h => by rw [RpA] at h ⊢; exact h
  | d :: ds, _, f, n, h => by
    rw [RpA] at h ⊢
    obtain ⟨v, vr, g, k, e, rfl, p, q⟩ := h
    exact ⟨v, vr, g, k, e, rfl, Rp.less g0 d v g (fun a ha => n a (List.mem_append_left _ ha)) p, RpA.less g0 ds vr k (fun a ha => n a (List.mem_append_right _ ha)) q⟩
end
theorem RpA.len1 : ∀ (ds : List D) (vs : List V) (f : List Addr), RpA B A H ds vs f → vs.length = ds.length
  | [], _, _, h => by rw [RpA] at h; obtain ⟨rfl, _⟩ := h; rfl
  | d :: ds, _, _, h => by rw [RpA] at h; obtain ⟨v, vr, g, k, rfl, rfl, p, q⟩ := h; simp [RpA.len1 ds vr k q]
mutual
theorem Rp.freeze (g0 : List Addr) : ∀ (d : D) (v : V) (f : List Addr), (∀ a ∈ f, a ∈ g0) → d.mayFreeze = true → Rp B A H d v f → Rp B (Less A g0) H d.freeze v []
  | .non, _, _, _, _, h => by rw [Rp] at h; rw [D.freeze, Rp]; exact ⟨h.1, rfl⟩
  | .bl _, _, _, _, _, h => by rw [Rp] at h; rw [D.freeze, Rp]; exact ⟨h.1, rfl⟩
  | .int _, _, _, _, _, h => by rw [Rp] at h; rw [D.freeze, Rp]; exact ⟨h.1, rfl⟩
  | .str _, _, _, _, _, h => by rw [Rp] at h; rw [D.freeze, Rp]; exact ⟨h.1, rfl⟩
  | .ty _, _, _, _, _, h => by rw [Rp] at h; rw [D.freeze, Rp]; exact ⟨h.1, rfl⟩
  | .fn _, _, _, _, _, h => by rw [Rp] at h; rw [D.freeze, Rp]; exact ⟨h.1, rfl⟩
  | .tup ds, _, f, n, m, h => by
    rw [Rp] at h
    rw [D.freeze, Rp]
    obtain ⟨a, vs, e, q, r⟩ := h
    exact ⟨a, vs, e, q, RpA.freeze g0 ds vs f n m r⟩
  | .lst o ds, _, f, n, m, h => by
    rw [Rp] at h
    rw [D.freeze, Rp]
    obtain ⟨a, vs, e, r, q⟩ := h
    cases o with
    | true =>
      obtain ⟨q1, q2, rfl⟩ := q
      exact ⟨a, vs, e, RpA.less g0 ds vs [] (fun b hb => by cases hb) r, q1, fun z => z.2 (n a (List.mem_cons_self ..)), rfl⟩
    | false =>
      obtain ⟨q1, q2, rfl⟩ := q
      exact ⟨a, vs, e, RpA.less g0 ds vs [] (fun b hb => by cases hb) r, q1, fun z => q2 z.1, rfl⟩
  | .ins o c ns ds, _, f, n, m, h => by
    rw [Rp] at h
    obtain ⟨a, dx, vs, g, e, r, q0, ql, q⟩ := h
    have ql' : ns.length = (D.freezeA ds).length := by rw [D.freezeA_map, List.length_map]; exact ql
    cases o with
    | true =>
      rw [D.freeze, Rp]
      obtain ⟨q2, rfl⟩ := q
      rw [D.mayFreeze] at m
      exact ⟨a, dx, vs, [], e, RpA.freeze g0 ds vs g (fun b hb => n b (List.mem_cons_of_mem _ hb)) m r, q0, ql', fun z => z.2 (n a (List.mem_cons_self ..)), rfl, rfl⟩
    | false =>
      obtain ⟨q2, rfl, rfl⟩ := q
      rw [D.freeze, Rp]
      exact ⟨a, dx, vs, [], e, RpA.less g0 ds vs [] (fun b hb => by cases hb) r, q0, ql, fun z => q2 z.1, rfl, rfl⟩
  | .dic o ks ds, _, f, n, m, h => by
    rw [Rp] at h
    rw [D.freeze, Rp]
    obtain ⟨a, vs, e, r, q0, q⟩ := h
    cases o with
    | true =>
      obtain ⟨q2, rfl, _⟩ := q
      exact ⟨a, vs, e, RpA.less g0 ds vs [] (fun b hb => by cases hb) r, q0, fun z => z.2 (n a (List.mem_cons_self ..)), rfl⟩
    | false =>
      obtain ⟨q2, rfl⟩ := q
      exact ⟨a, vs, e, RpA.less g0 ds vs [] (fun b hb => by cases hb) r, q0, fun z => q2 z.1, rfl⟩
  | .spring _, _, _, _, m, _ => by rw [D.mayFreeze] at m; cases m
  | .script, _, _, _, _, h => by
    rw [Rp] at h
    rw [D.freeze, Rp]
    obtain ⟨⟨a, ns, e, hl, q⟩, e2⟩ := h
    exact ⟨⟨a, ns, e, hl, q.imp (fun q => ⟨q.1, fun z => q.2 z.1⟩) id⟩, rfl⟩
  | .box ds, _, f, n, m, h => by
    rw [Rp] at h
    rw [D.freeze, Rp]
    obtain ⟨a, vs, g, e, r, q0, q2, rfl⟩ := h
    rw [D.mayFreeze] at m
    exact ⟨a, vs, e, RpA.freeze g0 ds vs g (fun b hb => n b (List.mem_cons_of_mem _ hb)) m r, q0, fun z => z.2 (n a (List.mem_cons_self ..)), rfl⟩
  | .reco ns ds, _, f, n, m, h => by
    rw [Rp] at h
    rw [D.freeze, Rp]
    obtain ⟨a, vs, g, e, r, q0, ql, qn, q2, rfl⟩ := h
    rw [D.mayFreeze] at m
    have hl : (ns.map (Sum.inr : Str → Key)).length = vs.length := by rw [List.length_map, RpA.len1 _ _ _ r, ql]
    refine ⟨a, vs, e, RpA.freeze g0 ds vs g (fun b hb => n b (List.mem_cons_of_mem _ hb)) m r, .inl ⟨ns.map Sum.inr, ?_, ?_, hl, .inl q0⟩, fun z => z.2 (n a (List.mem_cons_self ..)), rfl⟩
    · rw [List.map_map]; rfl
    · exact List.Pairwise.map _ (fun x y h z => h (Sum.inr.inj z)) qn
  | .val _, _, _, _, m, _ => by rw [D.mayFreeze] at m; cases m
  | .exc _ _ _ ns ds, _, f, n, m, h => by
    rw [Rp] at h
    rw [D.freeze, Rp]
    obtain ⟨e1, e2, vs, r, q⟩ := h
    exact ⟨e1, rfl, vs, RpA.less g0 ds vs [] (fun b hb => by cases hb) r, fun b hb => ⟨(q b hb).1, (q b hb).2.1, fun z => (q b hb).2.2 z.1⟩⟩
theorem RpA.freeze (g0 : List Addr) : ∀ (ds : List D) (vs : List V) (f : List Addr), (∀ a ∈ f, a ∈ g0) → D.mayFreezeA ds = true → RpA B A H ds vs f → RpA B (Less A g0) H (D.freezeA ds) vs []
  | [], _, _, _, _, h => by rw [RpA] at h; rw [D.freezeA, RpA]; exact ⟨h.1, rfl⟩
  | d :: ds, _, f, n, m, h => by
    rw [RpA] at h
    rw [D.freezeA, RpA]
    rw [D.mayFreezeA, Bool.and_eq_true] at m
    obtain ⟨v, vr, g, k, e, rfl, p, q⟩ := h
    exact ⟨v, vr, [], [], e, rfl, Rp.freeze g0 d v g (fun a ha => n a (List.mem_append_left _ ha)) m.1 p, RpA.freeze g0 ds vr k (fun a ha => n a (List.mem_append_right _ ha)) m.2 q⟩
end
end
section
variable (B : Bs) (A : Addr → Prop) (H : Hp)
def EnvR : List (Option D) → L2.St → List Addr → Prop
  | [], σ, f => σ = [] ∧ f = []
  | none :: ρ, σ, f => ∃ x σr, σ = x :: σr ∧ EnvR ρ σr f
  | some d :: ρ, σ, f => ∃ v σr g h, σ = some v :: σr ∧ f = g ++ h ∧ Rp B A H d v g ∧ EnvR ρ σr h
/-- the slots σ hold the data ρ, which own F; pr: slots that keep their values -/
structure Env (pr : Nat → Option V) (σ : L2.St) (ρ : List (Option D)) (F : List Addr) : Prop where
  r : EnvR B A H ρ σ F
  nd : F.Nodup
  al : ∀ a, A a → H a ≠ none
  pr : ∀ i v, pr i = some v → σ[i]? = some (some v)
end
section
variable {B : Bs} {A A' A'' : Addr → Prop} {F F' F'' : List Addr} {H H' H'' : Hp} {pr : Nat → Option V} {σ : L2.St} {ρ : List (Option D)}
theorem EnvR.own : ∀ (ρ : List (Option D)) (σ : L2.St) (f : List Addr), EnvR B A H ρ σ f → ∀ a ∈ f, A a
  | [], _, _, h => by rw [EnvR] at h; obtain ⟨_, rfl⟩ := h; simp
  | none :: ρ, _, f, h => by rw [EnvR] at h; obtain ⟨x, σr, _, h⟩ := h; exact EnvR.own ρ σr f h
  | some d :: ρ, _, f, h => by
    rw [EnvR] at h
    obtain ⟨v, σr, g, k, _, rfl, p, h⟩ := h
    intro a ha
    rcases List.mem_append.mp ha with ha | ha
    · exact (Rp.own d v g p a ha).1
    · exact EnvR.own ρ σr k h a ha
theorem Env.fa (e : Env B A H pr σ ρ F) : ∀ a ∈ F, A a := EnvR.own ρ σ F e.r
theorem EnvR.stay (s : Stays A F H A' H') : ∀ (ρ : List (Option D)) (σ : L2.St) (f : List Addr), (∀ a ∈ f, a ∉ F) → EnvR B A H ρ σ f → EnvR B A' H' ρ σ f
  | [], _, _, _, h => by rw [EnvR] at h ⊢; exact h
  | none :: ρ, _, f, n, h => by rw [EnvR] at h ⊢; obtain ⟨x, σr, e, h⟩ := h; exact ⟨x, σr, e, EnvR.stay s ρ σr f n h⟩
  | some d :: ρ, _, f, n, h => by
    rw [EnvR] at h ⊢
    obtain ⟨v, σr, g, k, e, rfl, p, h⟩ := h
    exact ⟨v, σr, g, k, e, rfl, Rp.stay s d v g (fun a ha => n a (List.mem_append_left _ ha)) p, EnvR.stay s ρ σr k (fun a ha => n a (List.mem_append_right _ ha)) h⟩
theorem EnvR.less (g0 : List Addr) : ∀ (ρ : List (Option D)) (σ : L2.St) (f : List Addr), (∀ a ∈ f, a ∉ g0) → EnvR B A H ρ σ f → EnvR B (Less A g0) H ρ σ f
  | [], _, _, _, h => by rw [EnvR] at h ⊢; exact h
  | none :: ρ, _, f, n, h => by rw [EnvR] at h ⊢; obtain ⟨x, σr, e, h⟩ := h; exact ⟨x, σr, e, EnvR.less g0 ρ σr f n h⟩
  | some d :: ρ, _, f, n, h => by
    rw [EnvR] at h ⊢
    obtain ⟨v, σr, g, k, e, rfl, p, h⟩ := h
    exact ⟨v, σr, g, k, e, rfl, Rp.less g0 d v g (fun a ha => n a (List.mem_append_left _ ha)) p, EnvR.less g0 ρ σr k (fun a ha => n a (List.mem_append_right _ ha)) h⟩
/-- one slot, the others -/
theorem EnvR.at_ : ∀ (ρ : List (Option D)) (σ : L2.St) (f : List Addr) (i : Nat) (d : D), ρ[i]? = some (some d) → EnvR B A H ρ σ f →
    ∃ v f1 g f2, σ[i]? = some (some v) ∧ f = f1 ++ g ++ f2 ∧ Rp B A H d v g ∧
      (∀ A' H' d' v' g', (∀ r s h, EnvR B A H r s h → (∀ a ∈ h, a ∈ f1 ++ f2) → EnvR B A' H' r s h) → Rp B A' H' d' v' g' → EnvR B A' H' (ρ.set i (some d')) (σ.set i (some v')) (f1 ++ g' ++ f2))
  | [], _, _, _, _, e, _ => by simp at e
  | some d0 :: ρ, _, f, 0, d, e, h => by
    rw [EnvR] at h
    obtain ⟨v, σr, g, k, rfl, rfl, p, h⟩ := h
    simp at e
    subst e
    refine ⟨v, [], g, k, by simp, by simp, p, fun A' H' d' v' g' hs hx => ?_⟩
    have h' := hs ρ σr k h (fun a ha => by simpa using ha)
    rw [List.set_cons_zero, EnvR]
    exact ⟨v', σr, g', k, rfl, by simp, hx, h'⟩
  | none :: ρ, _, f, 0, d, e, h => by simp at e
  | none :: ρ, _, f, i + 1, d, e, h => by
    rw [EnvR] at h
    obtain ⟨x0, σr, rfl, h⟩ := h
    obtain ⟨v, f1, g, f2, e1, rfl, p, q⟩ := EnvR.at_ ρ σr f i d (by simpa using e) h
    refine ⟨v, f1, g, f2, by simpa using e1, rfl, p, fun A' H' d' v' g' hs hx => ?_⟩
    rw [List.set_cons_succ, EnvR]
    exact ⟨x0, σr.set i (some v'), rfl, q A' H' d' v' g' hs hx⟩
  | some d0 :: ρ, _, f, i + 1, d, e, h => by
    rw [EnvR] at h
    obtain ⟨v0, σr, g0, k, rfl, rfl, p0, h⟩ := h
    obtain ⟨v, f1, g, f2, e1, rfl, p, q⟩ := EnvR.at_ ρ σr k i d (by simpa using e) h
    refine ⟨v, g0 ++ f1, g, f2, by simpa using e1, by simp, p, fun A' H' d' v' g' hs hx => ?_⟩
    rw [List.set_cons_succ, EnvR]
    have h0 : EnvR B A' H' [some d0] [some v0] (g0 ++ []) := hs [some d0] [some v0] (g0 ++ []) (by rw [EnvR]; exact ⟨v0, [], g0, [], rfl, rfl, p0, by rw [EnvR]; exact ⟨rfl, rfl⟩⟩) (fun a ha => by simp at ha; simp [ha])
    rw [EnvR] at h0
    obtain ⟨v1, _, g1, k1, e3, e4, p1, h1⟩ := h0
    rw [EnvR] at h1
    obtain ⟨rfl, rfl⟩ := h1
    cases e3
    simp at e4
    subst e4
    exact ⟨v0, σr.set i (some v'), g0, f1 ++ g' ++ f2, rfl, by simp, p1, q A' H' d' v' g' (fun r s h a b => hs r s h a (fun z hz => by have := b z hz; simp at this ⊢; rcases this with h | h <;> simp [h])) hx⟩
theorem EnvR.len : ∀ (ρ : List (Option D)) (σ : L2.St) (f : List Addr), EnvR B A H ρ σ f → ρ.length = σ.length
  | [], _, _, h => by rw [EnvR] at h; obtain ⟨rfl, _⟩ := h; rfl
  | none :: ρ, _, f, h => by rw [EnvR] at h; obtain ⟨x, σr, rfl, h⟩ := h; simp [EnvR.len ρ σr f h]
  | some d :: ρ, _, f, h => by rw [EnvR] at h; obtain ⟨v, σr, g, k, rfl, rfl, p, h⟩ := h; simp [EnvR.len ρ σr k h]
/-- one slot, whatever it held, is given up -/
theorem EnvR.off : ∀ (ρ : List (Option D)) (σ : L2.St) (f : List Addr) (i : Nat), EnvR B A H ρ σ f → ∃ f', (f'.Sublist f) ∧ ∀ x, EnvR B A H (ρ.set i none) (σ.set i x) f'
  | [], _, _, _, h => by rw [EnvR] at h; obtain ⟨rfl, rfl⟩ := h; exact ⟨[], .slnil, fun x => by simp [EnvR]⟩
  | none :: ρ, _, f, 0, h => by
    rw [EnvR] at h
    obtain ⟨x0, σr, rfl, h⟩ := h
    exact ⟨f, .refl _, fun x => by rw [List.set_cons_zero, EnvR]; exact ⟨_, _, rfl, h⟩⟩
  | some d :: ρ, _, f, 0, h => by
    rw [EnvR] at h
    obtain ⟨v, σr, g, k, rfl, rfl, p, h⟩ := h
    exact ⟨k, List.sublist_append_right .., fun x => by rw [List.set_cons_zero, EnvR]; exact ⟨_, _, rfl, h⟩⟩
  | none :: ρ, _, f, i + 1, h => by
    rw [EnvR] at h
    obtain ⟨x0, σr, rfl, h⟩ := h
    obtain ⟨f', s, q⟩ := EnvR.off ρ σr f i h
    exact ⟨f', s, fun x => by rw [List.set_cons_succ, EnvR]; exact ⟨_, _, rfl, q x⟩⟩
  | some d :: ρ, _, f, i + 1, h => by
    rw [EnvR] at h
    obtain ⟨v, σr, g, k, rfl, rfl, p, h⟩ := h
    obtain ⟨f', s, q⟩ := EnvR.off ρ σr k i h
    exact ⟨g ++ f', List.Sublist.append_left s g, fun x => by rw [List.set_cons_succ, EnvR]; exact ⟨v, _, g, f', rfl, rfl, p, q x⟩⟩
/-- an empty slot is filled -/
theorem EnvR.put : ∀ (ρ : List (Option D)) (σ : L2.St) (f : List Addr) (i : Nat) (d : D) (v : V) (g : List Addr), i < ρ.length → ρ[i]? = some none → EnvR B A H ρ σ f → Rp B A H d v g → ∃ f1 f2, f = f1 ++ f2 ∧ EnvR B A H (ρ.set i (some d)) (σ.set i (some v)) (f1 ++ g ++ f2)
  | [], _, _, _, _, _, _, hl, _, _, _ => by simp at hl
  | x :: ρ, _, f, 0, d, v, g, _, e, h, p => by
    simp at e
    subst e
    rw [EnvR] at h
    obtain ⟨x0, σr, rfl, h⟩ := h
    exact ⟨[], f, rfl, by rw [List.set_cons_zero, EnvR]; exact ⟨v, σr, g, f, rfl, by simp, p, h⟩⟩
  | none :: ρ, _, f, i + 1, d, v, g, hl, e, h, p => by
    rw [EnvR] at h
    obtain ⟨x0, σr, rfl, h⟩ := h
    obtain ⟨f1, f2, rfl, q⟩ := EnvR.put ρ σr f i d v g (by simpa using hl) (by simpa using e) h p
    exact ⟨f1, f2, rfl, by rw [List.set_cons_succ, EnvR]; exact ⟨_, _, rfl, q⟩⟩
  | some d0 :: ρ, _, f, i + 1, d, v, g, hl, e, h, p => by
    rw [EnvR] at h
    obtain ⟨v0, σr, g0, k, rfl, rfl, p0, h⟩ := h
    obtain ⟨f1, f2, rfl, q⟩ := EnvR.put ρ σr k i d v g (by simpa using hl) (by simpa using e) h p
    exact ⟨g0 ++ f1, f2, by simp, by rw [List.set_cons_succ, EnvR]; exact ⟨v0, _, g0, _, rfl, by simp, p0, q⟩⟩
end
end DL
namespace DL
open PySem PySem.Spec PyProof.Rows L2 PB
mutual
def D.isFz : D → Bool
  | .tup ds => D.isFzA ds
  | .lst o _ => !o
  | .ins o _ _ _ => !o
  | .dic o _ _ => !o
  | .spring _ => false
  | .box _ => false
  | .reco _ _ => false
  | .val _ => false
  | _ => true
def D.isFzA : List D → Bool
  | [] => true
  | d :: ds => D.isFz d && D.isFzA ds
end
mutual
theorem D.freeze_fz : ∀ d : D, d.isFz = true → d.freeze = d
  | .non, _ => rfl
  | .bl _, _ => rfl
  | .int _, _ => rfl
  | .str _, _ => rfl
  | .ty _, _ => rfl
  | .fn _, _ => rfl
  | .tup ds, h => by rw [D.freeze, D.freezeA_fz ds h]
  | .lst true _, h => by cases h
  | .lst false _, _ => rfl
  | .ins true _ _ _, h => by cases h
  | .ins false _ _ _, _ => rfl
  | .dic true _ _, h => by cases h
  | .dic false _ _, _ => rfl
  | .spring _, h => by cases h
  | .box _, h => by cases h
  | .reco _ _, h => by cases h
  | .val _, h => by cases h
  | .exc _ _ _ _ _, _ => rfl
  | .script, _ => rfl
theorem D.freezeA_fz : ∀ ds : List D, D.isFzA ds = true → D.freezeA ds = ds
  | [], _ => rfl
  | d :: ds, h => by
    rw [D.isFzA, Bool.and_eq_true] at h
    rw [D.freezeA, D.freeze_fz d h.1, D.freezeA_fz ds h.2]
end
mutual
theorem D.may_fz : ∀ d : D, d.isFz = true → d.mayFreeze = true
  | .non, _ => rfl
  | .bl _, _ => rfl
  | .int _, _ => rfl
  | .str _, _ => rfl
  | .ty _, _ => rfl
  | .fn _, _ => rfl
  | .tup ds, h => by rw [D.mayFreeze]; exact D.mayA_fz ds h
  | .lst true _, h => by cases h
  | .lst false _, _ => rfl
  | .ins true _ _ _, h => by cases h
  | .ins false _ _ _, _ => rfl
  | .dic true _ _, h => by cases h
  | .dic false _ _, _ => rfl
  | .spring _, h => by cases h
  | .box _, h => by cases h
  | .reco _ _, h => by cases h
  | .val _, h => by cases h
  | .exc _ _ _ _ _, _ => rfl
  | .script, _ => rfl
theorem D.mayA_fz : ∀ ds : List D, D.isFzA ds = true → D.mayFreezeA ds = true
  | [], _ => rfl
  | d :: ds, h => by
    rw [D.isFzA, Bool.and_eq_true] at h
    rw [D.mayFreezeA, D.may_fz d h.1, D.mayA_fz ds h.2]
    rfl
end
theorem D.isFzA_all (ds : List D) : D.isFzA ds = ds.all D.isFz := by
  induction ds with
  | nil => rfl
  | cons d ds ih => rw [D.isFzA, ih, List.all_cons]
section
variable {B : Bs} {A A' A1 A2 : Addr → Prop} {F F' F1 F2 : List Addr} {H H' H1 H2 : Hp} {pr : Nat → Option V} {σ : L2.St} {ρ ρ1 ρ2 : List (Option D)}
mutual
/-- what is frozen owns nothing -/
theorem Rp.fz : ∀ (d : D) (v : V) (f : List Addr), d.isFz = true → Rp B A H d v f → f = []
  | .non, _, _, _, h => by rw [Rp] at h; exact h.2
  | .bl _, _, _, _, h => by rw [Rp] at h; exact h.2
  | .int _, _, _, _, h => by rw [Rp] at h; exact h.2
  | .str _, _, _, _, h => by rw [Rp] at h; exact h.2
  | .ty _, _, _, _, h => by rw [Rp] at h; exact h.2
  | .fn _, _, _, _, h => by rw [Rp] at h; exact h.2
  | .tup ds, _, f, m, h => by
    rw [Rp] at h
    obtain ⟨a, vs, e, q, r⟩ := h
    exact RpA.fz ds vs f m r
  | .lst true _, _, _, m, _ => by cases m
  | .lst false ds, _, f, _, h => by rw [Rp] at h; obtain ⟨_, _, _, _, _, _, e⟩ := h; exact e
  | .ins true _ _ _, _, _, m, _ => by cases m
  | .ins false _ _ _, _, _, _, h => by rw [Rp] at h; obtain ⟨_, _, _, _, _, _, _, _, _, e, _⟩ := h; exact e
  | .dic true _ _, _, _, m, _ => by cases m
  | .dic false _ _, _, _, _, h => by rw [Rp] at h; obtain ⟨_, _, _, _, _, _, e⟩ := h; exact e
  | .spring _, _, _, m, _ => by cases m
  | .box _, _, _, m, _ => by cases m
  | .reco _ _, _, _, m, _ => by cases m
  | .val _, _, _, m, _ => by cases m
  | .exc _ _ _ _ _, _, _, _, h => by rw [Rp] at h; exact h.2.1
  | .script, _, _, _, h => by rw [Rp] at h; exact h.2
theorem RpA.fz : ∀ (ds : List D) (vs : List V) (f : List Addr), D.isFzA ds = true → RpA B A H ds vs f → f = []
  | [], _, _, _, h => by rw [RpA] at h; exact h.2
  | d :: ds, _, f, m, h => by
    rw [RpA] at h
    rw [D.isFzA, Bool.and_eq_true] at m
    obtain ⟨v, vr, g, k, e, rfl, p, q⟩ := h
    rw [Rp.fz d v g m.1 p, RpA.fz ds vr k m.2 q]
    rfl
end
end
inductive DX where
  | own (c : Str)
  | blt (n : String)
  | fld (c : Str) (ns : List Str) (ds : List D)
def XR (B : Bs) (A : Addr → Prop) (H : Hp) : DX → Value → Option Addr → Prop
  | .own c, cls, d => cls = .ref (He.ga B.K c) ∧ d = none
  | .blt n, cls, _ => cls = .type n
  | .fld c ns ds, cls, d => cls = .ref (He.ga B.K c) ∧ ∃ a vs, d = some a ∧ H a = some (.xd (ns.zip vs)) ∧ RpA B A H ds vs [] ∧ ns.length = ds.length ∧ ¬ A a
abbrev Rho := List (Option D)
abbrev QD := D → Rho → Prop
abbrev XD := DX → Rho → Prop
abbrev WD := Rho → QD → XD → Prop
abbrev WT := Rho → (Bool → Rho → Prop) → XD → Prop
abbrev WA := Rho → (List D → Rho → Prop) → XD → Prop
/-- what an expression leaves -/
structure Out (B : Bs) (A : Addr → Prop) (F : List Addr) (H : Hp) (pr : Nat → Option V) (σ : L2.St) (A' : Addr → Prop) (F' : List Addr) (H' : Hp) (ρ' : Rho) (v : V) (d : D) (f : List Addr) : Prop where
  step : Step A F H A' F' H'
  env : Env B A' H' pr σ ρ' F'
  val : Rp B A' H' d v f
  nd : (f ++ F').Nodup
  src : ∀ a ∈ f, a ∈ F ∨ H a = none
structure OutA (B : Bs) (A : Addr → Prop) (F : List Addr) (H : Hp) (pr : Nat → Option V) (σ : L2.St) (A' : Addr → Prop) (F' : List Addr) (H' : Hp) (ρ' : Rho) (vs : List V) (ds : List D) (f : List Addr) : Prop where
  step : Step A F H A' F' H'
  env : Env B A' H' pr σ ρ' F'
  val : RpA B A' H' ds vs f
  nd : (f ++ F').Nodup
  src : ∀ a ∈ f, a ∈ F ∨ H a = none
def ExOk (B : Bs) (pr : Nat → Option V) (W : WX) (A : Addr → Prop) (F : List Addr) (H : Hp) (Xd : XD) : Prop :=
  ∀ x ρ', Xd x ρ' → ∀ σ' A' F' H' cls dd, Step A F H A' F' H' → Env B A' H' pr σ' ρ' F' → XR B A' H' x cls dd → W cls dd σ' H'
def liftE (B : Bs) (pr : Nat → Option V) (W : WX) (w : WD) : TE := fun σ H Q => ∃ A F ρ Qd Xd, Env B A H pr σ ρ F ∧ w ρ Qd Xd ∧ (∀ d ρ', Qd d ρ' → ∀ A' F' H' v f, Out B A F H pr σ A' F' H' ρ' v d f → Q v H') ∧ ExOk B pr W A F H Xd
def liftT (B : Bs) (pr : Nat → Option V) (W : WX) (w : WT) : TT := fun σ H Q => ∃ A F ρ Qd Xd, Env B A H pr σ ρ F ∧ w ρ Qd Xd ∧ (∀ b ρ', Qd b ρ' → ∀ A' F' H', Step A F H A' F' H' → Env B A' H' pr σ ρ' F' → Q b H') ∧ ExOk B pr W A F H Xd
def DE (B : Bs) (X : Cx) (pr : Nat → Option V) (W : WX) (e : Expr) (w : WD) : Prop := PE X e (liftE B pr W w)
def DT (B : Bs) (X : Cx) (pr : Nat → Option V) (W : WX) (e : Expr) (w : WT) : Prop := PT X e (liftT B pr W w)
def DW (B : Bs) (X : Cx) (pr : Nat → Option V) (W : WX) (e : Expr) (w : WT) : Prop := PW X e (liftT B pr W w)
theorem peW {X : Cx} {e : Expr} {t t' : TE} (h : PE X e t) (m : ∀ σ H Q, t' σ H Q → t σ H Q) : PE X e t' := ⟨fun pins s σ H Q I q => h.run pins s σ H Q I (m σ H Q q)⟩
theorem ptW {X : Cx} {e : Expr} {t t' : TT} (h : PT X e t) (m : ∀ σ H Q, t' σ H Q → t σ H Q) : PT X e t' := ⟨fun pins s σ H Q I q => h.run pins s σ H Q I (m σ H Q q)⟩
theorem pwW {X : Cx} {e : Expr} {t t' : TT} (h : PW X e t) (m : ∀ σ H Q, t' σ H Q → t σ H Q) : PW X e t' := ⟨fun w pins s σ H Q I q => h.run w pins s σ H Q I (m σ H Q q)⟩
/-- the heap grows, f is new and owned -/
structure Grow (A : Addr → Prop) (H : Hp) (A' : Addr → Prop) (H' : Hp) (f : List Addr) : Prop where
  keep : Keep [] H H'
  ao : ∀ a, A' a → A a ∨ a ∈ f
  ak : ∀ a, A a → A' a
  nw : ∀ a ∈ f, H a = none
  nd : f.Nodup
theorem Grow.same (A : Addr → Prop) (H : Hp) : Grow A H A H [] := ⟨.refl _, fun _ h => .inl h, fun _ h => h, by simp, by simp⟩
theorem Grow.tup {A : Addr → Prop} {H H' : Hp} (k : Keep [] H H') : Grow A H A H' [] := ⟨k, fun _ h => .inl h, fun _ h => h, by simp, by simp⟩
/-- A with p -/
def More (A : Addr → Prop) (p : Addr) : Addr → Prop := fun a => A a ∨ a = p
theorem Grow.own {A : Addr → Prop} {H H' : Hp} {p : Addr} (k : Keep [] H H') (hp : H p = none) : Grow A H (More A p) H' [p] := ⟨k, fun _ h => h.imp id fun z => by simp [z], fun _ h => .inl h, fun a ha => by simp at ha; subst ha; exact hp, by simp⟩
section
variable {B : Bs} {A A' A1 A2 : Addr → Prop} {F F' F1 F2 : List Addr} {H H' H1 H2 : Hp} {pr : Nat → Option V} {σ : L2.St} {ρ ρ1 ρ2 : Rho} {v x y : V} {d d1 d2 : D} {f f1 f2 : List Addr} {W : WX} {Xd : XD}
theorem Grow.stays (g : Grow A H A' H' f) : Stays A [] H A' H' := ⟨g.keep, by simp, fun a h => (g.ao a h).imp id (g.nw a), fun a h _ => g.ak a h⟩
theorem Step.stays (s : Step A F H A' F' H') (e : Env B A H pr σ ρ F) : Stays A F H A' H' := ⟨s.keep, e.fa, s.ao, s.ak⟩
theorem Env.grow (e : Env B A H pr σ ρ F) (g : Grow A H A' H' f) (hl : ∀ a ∈ f, H' a ≠ none) : Env B A' H' pr σ ρ F where
  r := EnvR.stay g.stays _ _ _ (by simp) e.r
  nd := e.nd
  al := fun a h => by
    rcases g.ao a h with h | h
    · cases q : H a with
      | none => exact (e.al a h q).elim
      | some o => rw [g.keep.at_ a o (by simp) q]; simp
    · exact hl a h
  pr := e.pr
theorem Out.grow (e : Env B A H pr σ ρ F) (g : Grow A H A' H' f) (val : Rp B A' H' d v f) : Out B A F H pr σ A' F H' ρ v d f where
  step := ⟨⟨fun b o _ h => g.keep.at_ b o (by simp) h, g.keep.imm⟩, fun a h => .inl h, fun a h => (g.ao a h).imp id (g.nw a), fun a h _ => g.ak a h⟩
  env := e.grow g fun a ha => (Rp.own d v f val a ha).2
  val := val
  nd := List.nodup_append.mpr ⟨g.nd, e.nd, fun a ha b hb z => by subst z; exact e.al a (e.fa a hb) (g.nw a ha)⟩
  src := fun a ha => .inr (g.nw a ha)
theorem ExOk.shift (e : Env B A H pr σ ρ F) (s : Step A F H A1 F1 H1) (hx : ExOk B pr W A F H Xd) : ExOk B pr W A1 F1 H1 Xd :=
  fun x ρ' q σ' A' F' H' cls dd t => hx x ρ' q σ' A' F' H' cls dd (s.trans e.al e.fa t)
/-- a value stays over a second expression -/
theorem Out.over (e : Env B A H pr σ ρ F) (o : Out B A F H pr σ A1 F1 H1 ρ1 x d1 f1) (s : Step A1 F1 H1 A2 F2 H2) : Rp B A2 H2 d1 x f1 ∧ (∀ a ∈ f1, a ∉ F2) := by
  have nd := List.nodup_append.mp o.nd
  refine ⟨Rp.stay (s.stays o.env) _ _ _ (fun a ha z => nd.2.2 a ha a z rfl) o.val, fun a ha z => ?_⟩
  rcases s.fo a z with z | z
  · exact nd.2.2 a ha a z rfl
  · exact (Rp.own _ _ _ o.val a ha).2 z
theorem Env.less (e : Env B A H pr σ ρ F) (g0 : List Addr) (h : ∀ a ∈ F, a ∉ g0) : Env B (Less A g0) H pr σ ρ F := ⟨EnvR.less g0 _ _ _ h e.r, e.nd, fun a z => e.al a z.1, e.pr⟩
/-- a value is frozen -/
theorem Out.freeze (e : Env B A H pr σ ρ F) (o : Out B A F H pr σ A1 F1 H1 ρ1 x d f) (m : d.mayFreeze = true) : Out B A F H pr σ (Less A1 f) F1 H1 ρ1 x d.freeze [] where
  step := ⟨o.step.keep, o.step.fo, fun a z => o.step.ao a z.1, fun a z n => ⟨o.step.ak a z n, fun hf => (o.src a hf).elim n (e.al a z)⟩⟩
  env := o.env.less f fun a ha hf => (List.nodup_append.mp o.nd).2.2 a hf a ha rfl
  val := Rp.freeze f d x f (fun _ h => h) m o.val
  nd := by simpa using o.env.nd
  src := by simp
end
end DL
namespace DL
open PySem PySem.Spec PyProof.Rows L2 PB
/-- v is d, whoever owns its own place -/
def Pk (B : Bs) (A : Addr → Prop) (H : Hp) : D → V → Prop
  | .lst _ ds, v => ∃ a vs, v = .ref a ∧ H a = some (.lst vs) ∧ RpA B A H ds vs []
  | .ins _ c ns ds, v => ∃ a dx vs g, v = .ref a ∧ H a = some (.ins (He.ga B.K c) dx (ns.zip vs)) ∧ ns.length = ds.length ∧ RpA B A H ds vs g
  | .dic _ ks ds, v => ∃ a vs, v = .ref a ∧ RpA B A H ds vs [] ∧ DicAt B H a ks vs
  | .tup ds, v => ∃ a vs g, v = .ref a ∧ SqT B.K H a vs ∧ RpA B A H ds vs g
  | .spring _, _ => True
  | .box ds, v => ∃ a vs g, v = .ref a ∧ H a = some (.lst vs) ∧ RpA B A H ds vs g
  | .reco ns ds, v => ∃ a vs g, v = .ref a ∧ H a = some (.dK ((ns.map (Sum.inr : Str → Key)).zip vs)) ∧ ns.length = ds.length ∧ ns.Nodup ∧ RpA B A H ds vs g
  | .val u, v => v = u
  | .exc a _ _ _ _, v => v = .ref a
  | .script, v => ScriptAt B A H v
  | .non, v => v = .non
  | .bl b, v => v = .bl b
  | .int i, v => v = .int i
  | .str s, v => v = .str s
  | .ty n, v => v = .ty n
  | .fn x, v => v = .ref (He.ga B.K x)
def PkA (B : Bs) (A : Addr → Prop) (H : Hp) : List D → List V → Prop
  | [], vs => vs = []
  | d :: ds, vs => ∃ v vr, vs = v :: vr ∧ Pk B A H d v ∧ PkA B A H ds vr
inductive Opd where
  | w (w : WD)
  | v (i : Nat)
def sl (ρ : Rho) (i : Nat) (k : D → Prop) : Prop := match ρ[i]? with
  | some (some d) => k d
  | _ => False
theorem sl_iff {ρ : Rho} {i : Nat} {k : D → Prop} : sl ρ i k ↔ ∃ d, ρ[i]? = some (some d) ∧ k d := by
  unfold sl
  cases h : ρ[i]? with
  | none => simp
  | some x => cases x <;> simp
def tOpd (B : Bs) (pr : Nat → Option V) (W : WX) : Opd → TE
  | .w w => liftE B pr W w
  | .v i => tVar i
def tOpds (B : Bs) (pr : Nat → Option V) (W : WX) : List Opd → TA
  | [] => tNil
  | o :: os => tCons (tOpd B pr W o) (tOpds B pr W os)
def DO (B : Bs) (X : Cx) (pr : Nat → Option V) (W : WX) (e : Expr) (o : Opd) : Prop := PE X e (tOpd B pr W o)
def DOs (B : Bs) (X : Cx) (pr : Nat → Option V) (W : WX) (es : List Expr) (os : List Opd) : Prop := PA X es (tOpds B pr W os)
def wC (d : D) : WD := fun ρ Q _ => Q d ρ
def wVar (i : Nat) : WD := fun ρ Q _ => sl ρ i fun d => cond d.mayFreeze (Q d.freeze (ρ.set i (some d.freeze))) False
def wMove (i : Nat) : WD := fun ρ Q _ => sl ρ i fun d => Q d (ρ.set i none)
def wFz (w : WD) : WD := fun ρ Q X => w ρ (fun d ρ' => cond d.mayFreeze (Q d.freeze ρ') False) X
def wOp (g : D → D → (D → Prop) → Prop) : Opd → Opd → WD
  | .w wa, .w wb => fun ρ Q X => wa ρ (fun d1 ρ1 => wb ρ1 (fun d2 ρ2 => g d1 d2 fun d => Q d ρ2) X) X
  | .v i, .w wb => fun ρ Q X => sl ρ i fun _ => wb ρ (fun d2 ρ2 => sl ρ2 i fun d1 => g d1 d2 fun d => Q d ρ2) X
  | .w wa, .v j => fun ρ Q X => wa ρ (fun d1 ρ1 => sl ρ1 j fun d2 => g d1 d2 fun d => Q d ρ1) X
  | .v i, .v j => fun ρ Q _ => sl ρ i fun d1 => sl ρ j fun d2 => g d1 d2 fun d => Q d ρ
def wUn (g : D → (D → Prop) → Prop) : Opd → WD
  | .w wa => fun ρ Q X => wa ρ (fun d ρ1 => g d fun d' => Q d' ρ1) X
  | .v i => fun ρ Q _ => sl ρ i fun d => g d fun d' => Q d' ρ
def wOps : List Opd → Rho → (List D → Rho → Prop) → XD → Prop
  | [], ρ, Q, _ => Q [] ρ
  | .w w :: os, ρ, Q, X => w ρ (fun d ρ1 => wOps os ρ1 (fun ds ρ2 => Q (d :: ds) ρ2) X) X
  | .v i :: os, ρ, Q, X => sl ρ i fun _ => wOps os ρ (fun ds ρ2 => sl ρ2 i fun d => Q (d :: ds) ρ2) X
def wCB (g : List D → (D → Prop) → Prop) (os : List Opd) : WD := fun ρ Q X => wOps os ρ (fun ds ρ1 => g ds fun d => Q d ρ1) X
/-- values with what they own -/
def wL : List WD → WA
  | [] => fun ρ Q _ => Q [] ρ
  | w :: ws => fun ρ Q X => w ρ (fun d ρ1 => wL ws ρ1 (fun ds ρ2 => Q (d :: ds) ρ2) X) X
def wTup (ws : List WD) : WD := fun ρ Q X => wL ws ρ (fun ds ρ1 => cond (decide (ds.length ≤ 1000)) (Q (.tup ds) ρ1) False) X
def wLst (ws : List WD) : WD := fun ρ Q X => wL ws ρ (fun ds ρ1 => cond (decide (ds.length ≤ 1000) && D.mayFreezeA ds) (Q (.lst true (D.freezeA ds)) ρ1) False) X
def wT (w : WD) : WT := fun ρ Q X => w ρ (fun d ρ1 => match d with | .bl b => Q b ρ1 | _ => False) X
def wNotT (w : WT) : WT := fun ρ Q X => w ρ (fun b ρ1 => Q (!b) ρ1) X
def wAndT (w u : WT) : WT := fun ρ Q X => w ρ (fun b ρ1 => if b = true then u ρ1 Q X else Q false ρ1) X
def wOrT (w u : WT) : WT := fun ρ Q X => w ρ (fun b ρ1 => if b = true then Q true ρ1 else u ρ1 Q X) X
def wIfE (t : WT) (a b : WD) : WD := fun ρ Q X => t ρ (fun c ρ1 => if c = true then a ρ1 Q X else b ρ1 Q X) X
def wAndV (a b : WD) : WD := fun ρ Q X => a ρ (fun d ρ1 => match d with | .bl c => if c = true then b ρ1 Q X else Q (.bl false) ρ1 | _ => False) X
def wOrV (a b : WD) : WD := fun ρ Q X => a ρ (fun d ρ1 => match d with | .bl c => if c = true then Q (.bl true) ρ1 else b ρ1 Q X | _ => False) X
def wNotV (a : WD) : WD := fun ρ Q X => a ρ (fun d ρ1 => match d with | .bl c => Q (.bl (!c)) ρ1 | _ => False) X
def Sim2 (B : Bs) (r : R2) (g : D → D → (D → Prop) → Prop) : Prop := ∀ A H x y d1 d2 (Q : VK) (Qd : D → Prop), (∀ a, A a → H a ≠ none) → Pk B A H d1 x → Pk B A H d2 y → g d1 d2 Qd → (∀ d, Qd d → ∀ A' H' v f, Grow A H A' H' f → Rp B A' H' d v f → Q v H') → r x y H Q
def Sim1 (B : Bs) (r : V → Hp → VK → Prop) (g : D → (D → Prop) → Prop) : Prop := ∀ A H x d1 (Q : VK) (Qd : D → Prop), (∀ a, A a → H a ≠ none) → Pk B A H d1 x → g d1 Qd → (∀ d, Qd d → ∀ A' H' v f, Grow A H A' H' f → Rp B A' H' d v f → Q v H') → r x H Q
def SimN (B : Bs) (r : List V → Hp → VK → Prop) (g : List D → (D → Prop) → Prop) : Prop := ∀ A H xs ds (Q : VK) (Qd : D → Prop), (∀ a, A a → H a ≠ none) → PkA B A H ds xs → g ds Qd → (∀ d, Qd d → ∀ A' H' v f, Grow A H A' H' f → Rp B A' H' d v f → Q v H') → r xs H Q
section
variable {B : Bs} {A A' A1 A2 A3 : Addr → Prop} {F F' F1 F2 F3 : List Addr} {H H' H1 H2 H3 : Hp} {pr : Nat → Option V} {σ : L2.St} {ρ ρ1 ρ2 ρ3 : Rho} {v x y : V} {d d1 d2 : D} {f f1 f2 : List Addr} {W : WX} {Xd : XD} {vs : List V} {ds : List D}
theorem Rp.pk : ∀ {d : D} {v : V} {f : List Addr}, Rp B A H d v f → Pk B A H d v
  | .non, _, _, h => by rw [Rp] at h; exact h.1
  | .bl _, _, _, h => by rw [Rp] at h; exact h.1
  | .int _, _, _, h => by rw [Rp] at h; exact h.1
  | .str _, _, _, h => by rw [Rp] at h; exact h.1
  | .ty _, _, _, h => by rw [Rp] at h; exact h.1
  | .fn _, _, _, h => by rw [Rp] at h; exact h.1
  | .tup ds, _, f, h => by
    rw [Rp] at h
    obtain ⟨a, vs, e, q, r⟩ := h
    exact ⟨a, vs, f, e, q, r⟩
  | .lst o ds, _, f, h => by
    rw [Rp] at h
    obtain ⟨a, vs, e, r, q⟩ := h
    cases o with
    | true => exact ⟨a, vs, e, q.1, r⟩
    | false => exact ⟨a, vs, e, q.1, r⟩
  | .ins o c ns ds, _, f, h => by
    rw [Rp] at h
    obtain ⟨a, dx, vs, g, e, r, q0, ql, q⟩ := h
    exact ⟨a, dx, vs, g, e, q0, ql, r⟩
  | .dic o ks ds, _, f, h => by
    rw [Rp] at h
    obtain ⟨a, vs, e, r, q0, q⟩ := h
    exact ⟨a, vs, e, r, q0⟩
  | .spring _, _, _, _ => trivial
  | .box ds, _, f, h => by
    rw [Rp] at h
    obtain ⟨a, vs, g, e, r, q0, _⟩ := h
    exact ⟨a, vs, g, e, q0, r⟩
  | .reco ns ds, _, f, h => by
    rw [Rp] at h
    obtain ⟨a, vs, g, e, r, q0, ql, qn, _⟩ := h
    exact ⟨a, vs, g, e, q0, ql, qn, r⟩
  | .val _, _, _, h => by rw [Rp] at h; exact h.1
  | .exc _ _ _ _ _, _, _, h => by rw [Rp] at h; exact h.1
  | .script, _, _, h => by rw [Rp] at h; exact h.1
theorem Out.seq (e : Env B A H pr σ ρ F) (s : Step A F H A2 F2 H2) (o : Out B A2 F2 H2 pr σ A3 F3 H3 ρ3 v d f) : Out B A F H pr σ A3 F3 H3 ρ3 v d f where
  step := s.trans e.al e.fa o.step
  env := o.env
  val := o.val
  nd := o.nd
  src := fun a ha => by
    rcases o.src a ha with z | z
    · exact s.fo a z
    · by_cases hf : a ∈ F
      · exact .inl hf
      · refine .inr ?_
        cases q : H a with
        | none => rfl
        | some u => rw [s.keep.at_ a u hf q] at z; cases z
theorem Env.at_ (e : Env B A H pr σ ρ F) {i : Nat} (h : ρ[i]? = some (some d)) : ∃ v g, σ[i]? = some (some v) ∧ Rp B A H d v g := by
  obtain ⟨v, f1, g, f2, e1, _, p, _⟩ := EnvR.at_ ρ σ F i d h e.r
  exact ⟨v, g, e1, p⟩
theorem Out.scal (e : Env B A H pr σ ρ F) (h : Rp B A H d v []) : Out B A F H pr σ A F H ρ v d [] := Out.grow e (Grow.same A H) h
theorem fin2 {r : R2} {g : D → D → (D → Prop) → Prop} {Qd : QD} {Q : VK} (hs : Sim2 B r g) (e : Env B A H pr σ ρ F) (s : Step A F H A2 F2 H2) (e2 : Env B A2 H2 pr σ ρ2 F2) (px : Pk B A2 H2 d1 x) (py : Pk B A2 H2 d2 y) (hg : g d1 d2 fun d => Qd d ρ2)
    (hq : ∀ d ρ', Qd d ρ' → ∀ A' F' H' v f, Out B A F H pr σ A' F' H' ρ' v d f → Q v H') : r x y H2 Q :=
  hs A2 H2 x y d1 d2 Q (fun d => Qd d ρ2) e2.al px py hg fun d q A' H' v f gr val => hq d ρ2 q _ _ _ _ _ (Out.seq e s (Out.grow e2 gr val))
theorem lift_op {r : R2} {g : D → D → (D → Prop) → Prop} {oa ob : Opd} (hs : Sim2 B r g) {σ : L2.St} {H : Hp} {Q : VK} (h : liftE B pr W (wOp g oa ob) σ H Q) : tOp r (tOpd B pr W oa) (tOpd B pr W ob) σ H Q := by
  obtain ⟨A, F, ρ, Qd, Xd, e, h, hq, hx⟩ := h
  cases oa with
  | w wa =>
    cases ob with
    | w wb => exact ⟨A, F, ρ, _, Xd, e, h, fun d1 ρ1 h1 A1 F1 H1 x f1 o1 => ⟨A1, F1, ρ1, _, Xd, o1.env, h1, fun d2 ρ2 h2 A2 F2 H2 y f2 o2 => fin2 hs e (o1.step.trans e.al e.fa o2.step) o2.env (Out.over e o1 o2.step).1.pk o2.val.pk h2 hq, hx.shift e o1.step⟩, hx⟩
    | v j =>
      refine ⟨A, F, ρ, _, Xd, e, h, fun d1 ρ1 h1 A1 F1 H1 x f1 o1 => ?_, hx⟩
      obtain ⟨d2, hj, h2⟩ := sl_iff.mp h1
      obtain ⟨y, g2, ey, py⟩ := o1.env.at_ hj
      exact ⟨y, ey, fin2 hs e o1.step o1.env o1.val.pk py.pk h2 hq⟩
  | v i =>
    cases ob with
    | w wb =>
      obtain ⟨d0, hi, h1⟩ := sl_iff.mp h
      obtain ⟨x, g1, ex, _⟩ := e.at_ hi
      refine ⟨x, ex, A, F, ρ, _, Xd, e, h1, fun d2 ρ2 h2 A2 F2 H2 y f2 o2 => ?_, hx⟩
      obtain ⟨d1, hi2, h3⟩ := sl_iff.mp h2
      obtain ⟨x', g1', ex', px'⟩ := o2.env.at_ hi2
      rw [ex] at ex'
      cases ex'
      exact fin2 hs e o2.step o2.env px'.pk o2.val.pk h3 hq
    | v j =>
      obtain ⟨d1, hi, h1⟩ := sl_iff.mp h
      obtain ⟨d2, hj, h2⟩ := sl_iff.mp h1
      obtain ⟨x, g1, ex, px⟩ := e.at_ hi
      obtain ⟨y, g2, ey, py⟩ := e.at_ hj
      exact ⟨x, ex, y, ey, fin2 hs e (Step.refl A F H) e px.pk py.pk h2 hq⟩
theorem lift_un {r : V → Hp → VK → Prop} {g : D → (D → Prop) → Prop} {oa : Opd} (hs : Sim1 B r g) {σ : L2.St} {H : Hp} {Q : VK} (h : liftE B pr W (wUn g oa) σ H Q) : tUn r (tOpd B pr W oa) σ H Q := by
  obtain ⟨A, F, ρ, Qd, Xd, e, h, hq, hx⟩ := h
  cases oa with
  | w wa =>
    exact ⟨A, F, ρ, _, Xd, e, h, fun d1 ρ1 h1 A1 F1 H1 x f1 o1 => hs A1 H1 x d1 Q (fun d => Qd d ρ1) o1.env.al o1.val.pk h1 fun d q A' H' v f gr val => hq d ρ1 q _ _ _ _ _ (Out.seq e o1.step (Out.grow o1.env gr val)), hx⟩
  | v i =>
    obtain ⟨d1, hi, h1⟩ := sl_iff.mp h
    obtain ⟨x, g1, ex, px⟩ := e.at_ hi
    exact ⟨x, ex, hs A H x d1 Q (fun d => Qd d ρ) e.al px.pk h1 fun d q A' H' v f gr val => hq d ρ q _ _ _ _ _ (Out.grow e gr val)⟩
theorem lift_ops : ∀ (os : List Opd) {σ : L2.St} {H : Hp} {A : Addr → Prop} {F : List Addr} {ρ : Rho} {Qd : List D → Rho → Prop} {Xd : XD} {QA : List V → Hp → Prop}, Env B A H pr σ ρ F → wOps os ρ Qd Xd → ExOk B pr W A F H Xd →
    (∀ ds ρ', Qd ds ρ' → ∀ A' F' H' vs, Step A F H A' F' H' → Env B A' H' pr σ ρ' F' → PkA B A' H' ds vs → QA vs H') → tOpds B pr W os σ H QA
  | [], σ, H, A, F, ρ, Qd, Xd, QA, e, h, hx, hq => hq [] ρ h A F H [] (Step.refl A F H) e rfl
  | .w w :: os, σ, H, A, F, ρ, Qd, Xd, QA, e, h, hx, hq => by
    refine ⟨A, F, ρ, _, Xd, e, h, fun d1 ρ1 h1 A1 F1 H1 x f1 o1 => ?_, hx⟩
    refine lift_ops os o1.env h1 (hx.shift e o1.step) fun ds ρ' hd A' F' H' vs s e' pk => ?_
    exact hq (d1 :: ds) ρ' hd A' F' H' (x :: vs) (o1.step.trans e.al e.fa s) e' ⟨x, vs, rfl, (Out.over e o1 s).1.pk, pk⟩
  | .v i :: os, σ, H, A, F, ρ, Qd, Xd, QA, e, h, hx, hq => by
    obtain ⟨d0, hi, h1⟩ := sl_iff.mp h
    obtain ⟨x, g1, ex, _⟩ := e.at_ hi
    refine ⟨x, ex, lift_ops os e h1 hx fun ds ρ' hd A' F' H' vs s e' pk => ?_⟩
    obtain ⟨d, hi2, hd⟩ := sl_iff.mp hd
    obtain ⟨x', g1', ex', px'⟩ := e'.at_ hi2
    rw [ex] at ex'
    cases ex'
    exact hq (d :: ds) ρ' hd A' F' H' (x :: vs) s e' ⟨x, vs, rfl, px'.pk, pk⟩
theorem lift_cb {r : List V → Hp → VK → Prop} {g : List D → (D → Prop) → Prop} {os : List Opd} (hs : SimN B r g) {σ : L2.St} {H : Hp} {Q : VK} (h : liftE B pr W (wCB g os) σ H Q) : tCB r (tOpds B pr W os) σ H Q := by
  obtain ⟨A, F, ρ, Qd, Xd, e, h, hq, hx⟩ := h
  refine lift_ops os e h hx fun ds ρ' hd A' F' H' vs s e' pk => ?_
  exact hs A' H' vs ds Q (fun d => Qd d ρ') e'.al pk hd fun d q A2 H2 v f gr val => hq d ρ' q _ _ _ _ _ (Out.seq e s (Out.grow e' gr val))
/-- values with what they own -/
def tWs (B : Bs) (pr : Nat → Option V) (W : WX) : List WD → TA
  | [] => tNil
  | w :: ws => tCons (liftE B pr W w) (tWs B pr W ws)
theorem lift_ws : ∀ (ws : List WD) {σ : L2.St} {H : Hp} {A : Addr → Prop} {F : List Addr} {ρ : Rho} {Qd : List D → Rho → Prop} {Xd : XD} {QA : List V → Hp → Prop}, Env B A H pr σ ρ F → wL ws ρ Qd Xd → ExOk B pr W A F H Xd →
    (∀ ds ρ', Qd ds ρ' → ∀ A' F' H' vs f, OutA B A F H pr σ A' F' H' ρ' vs ds f → QA vs H') → tWs B pr W ws σ H QA
  | [], σ, H, A, F, ρ, Qd, Xd, QA, e, h, hx, hq => hq [] ρ h A F H [] [] ⟨Step.refl A F H, e, by rw [RpA]; exact ⟨rfl, rfl⟩, by simpa using e.nd, by simp⟩
  | w :: ws, σ, H, A, F, ρ, Qd, Xd, QA, e, h, hx, hq => by
    refine ⟨A, F, ρ, _, Xd, e, h, fun d1 ρ1 h1 A1 F1 H1 x f1 o1 => ?_, hx⟩
    refine lift_ws ws o1.env h1 (hx.shift e o1.step) fun ds ρ' hd A' F' H' vs f o => ?_
    have nd1 := List.nodup_append.mp o1.nd
    have nd2 := List.nodup_append.mp o.nd
    have ov := Out.over e o1 o.step
    have of1 := Rp.own _ _ _ o1.val
    refine hq (d1 :: ds) ρ' hd A' F' H' (x :: vs) (f1 ++ f) ⟨o1.step.trans e.al e.fa o.step, o.env, ?_, ?_, fun a ha => ?_⟩
    · rw [RpA]
      exact ⟨x, vs, f1, f, rfl, rfl, ov.1, o.val⟩
    · rw [List.append_assoc]
      refine List.nodup_append.mpr ⟨nd1.1, o.nd, fun a ha b hb z => ?_⟩
      subst z
      rcases List.mem_append.mp hb with hb | hb
      · rcases o.src a hb with z | z
        · exact nd1.2.2 a ha a z rfl
        · exact (of1 a ha).2 z
      · exact ov.2 a ha hb
    · rcases List.mem_append.mp ha with ha | ha
      · exact o1.src a ha
      · rcases o.src a ha with z | z
        · exact o1.step.fo a z
        · by_cases hf : a ∈ F
          · exact .inl hf
          · refine .inr ?_
            cases q : H a with
            | none => rfl
            | some u => rw [o1.step.keep.at_ a u hf q] at z; cases z
end
section
variable {B : Bs} {X : Cx} {pr : Nat → Option V} {W : WX} {a b c e o : Expr} {es : List Expr} {pos p : Pos} {oa ob oc : Opd} {os : List Opd} {wa wb wc : WD} {ws : List WD} {ta tb : WT}
def DWs (B : Bs) (X : Cx) (pr : Nat → Option V) (W : WX) (es : List Expr) (ws : List WD) : Prop := PA X es (tWs B pr W ws)
theorem do_w (h : DE B X pr W e wa) : DO B X pr W e (.w wa) := h
theorem do_v {i : Nat} (h : PE X e (tVar i)) : DO B X pr W e (.v i) := h
theorem dos_nil : DOs B X pr W [] [] := pa_nil
theorem dos_cons (h : DO B X pr W e oa) (hr : DOs B X pr W es os) (hs : starEach (e :: es) X.env = (false, eval e X.env) :: starEach es X.env := by rfl) : DOs B X pr W (e :: es) (oa :: os) := pa_cons h hr hs
theorem dws_nil : DWs B X pr W [] [] := pa_nil
theorem dws_cons (h : DE B X pr W e wa) (hr : DWs B X pr W es ws) (hs : starEach (e :: es) X.env = (false, eval e X.env) :: starEach es X.env := by rfl) : DWs B X pr W (e :: es) (wa :: ws) := pa_cons h hr hs
theorem de_c {v : V} {d : D} (h : PE X e (tC v)) (hv : ∀ A H, Rp B A H d v [] := by intro _ _; rw [Rp]; exact ⟨rfl, rfl⟩) : DE B X pr W e (wC d) :=
  peW h fun σ H Q ⟨A, F, ρ, Qd, Xd, e, h, hq, hx⟩ => hq d ρ h _ _ _ _ _ (Out.scal e (hv A H))
theorem de_bin {op : Operator} {r : R2} {g : D → D → (D → Prop) → Prop} (ho : OpR X (binaryOp op) r) (hs : Sim2 B r g) (ha : DO B X pr W a oa) (hb : DO B X pr W b ob) : DE B X pr W (.BinOp a op b pos) (wOp g oa ob) := peW (pe_op ho ha hb) fun _ _ _ h => lift_op hs h
theorem de_cmp {op : CmpOp} {r : R2} {g : D → D → (D → Prop) → Prop} (ho : OpR X (compareOp op) r) (hs : Sim2 B r g) (ha : DO B X pr W a oa) (hb : DO B X pr W b ob) (hm : behindInMarks op b = false) : DE B X pr W (.Compare a [op] [b] pos) (wOp g oa ob) := peW (pe_cmpR ho ha hb hm) fun _ _ _ h => lift_op hs h
theorem de_ix {r : R2} {g : D → D → (D → Prop) → Prop} (hr : IxR X r) (hs : Sim2 B r g) (ha : DO B X pr W a oa) (hb : DO B X pr W b ob) (hp : PlainIx b) : DE B X pr W (.Subscript a b pos) (wOp g oa ob) := peW (pe_ix hr ha hb hp) fun _ _ _ h => lift_op hs h
theorem de_un {op : UnaryOp} {r : V → Hp → VK → Prop} {g : D → (D → Prop) → Prop} (ho : UnR X (unaryOp op) r) (hs : Sim1 B r g) (ha : DO B X pr W a oa) : DE B X pr W (.UnaryOp op a pos) (wUn g oa) := peW (pe_un ho ha) fun _ _ _ h => lift_un hs h
theorem de_callB {id : String} {x : Str} {r : List V → Hp → VK → Prop} {g : List D → (D → Prop) → Prop} (hc : CallR X (.builtin id) r) (hs : SimN B r g) (hg : Gl X x) (hm : X.mg x = none) (hv : bootBuiltins x = some (.builtin id)) (ha : DOs B X pr W (e :: es) os) (hn : x ≠ "__name__" := by decide) (hdb : (x == ("__debug__" : Str)) = false := by decide)
    (he : starEach (e :: es) X.env = (false, eval e X.env) :: starEach es X.env := by rfl) (hpl : (backTo pos (starEach es X.env)).any (·.1) = false := by rfl) : DE B X pr W (.Call (.Name x p) (e :: es) [] pos) (wCB g os) := peW (pe_callB hc hg hm hv ha hn hdb he hpl) fun _ _ _ h => lift_cb hs h
theorem de_callTy {T : String} {x : Str} {r : List V → Hp → VK → Prop} {g : List D → (D → Prop) → Prop} (hc : CallR X (.type T) r) (hs : SimN B r g) (hg : Gl X x) (hm : X.mg x = none) (hv : bootBuiltins x = some (.type T)) (ha : DOs B X pr W (e :: es) os) (hn : x ≠ "__name__" := by decide) (hdb : (x == ("__debug__" : Str)) = false := by decide)
    (he : starEach (e :: es) X.env = (false, eval e X.env) :: starEach es X.env := by rfl) (hpl : (backTo pos (starEach es X.env)).any (·.1) = false := by rfl) : DE B X pr W (.Call (.Name x p) (e :: es) [] pos) (wCB g os) := peW (pe_callTy hc hg hm hv ha hn hdb he hpl) fun _ _ _ h => lift_cb hs h
theorem set_same {α : Type} {l : List α} {i : Nat} {x : α} (h : l[i]? = some x) : l.set i x = l := by
  obtain ⟨hl, e⟩ := List.getElem?_eq_some_iff.mp h
  rw [← e]
  exact List.set_getElem_self hl
/-- a variable: what it owns is frozen -/
theorem de_var {i : Nat} (h : PE X e (tVar i)) : DE B X pr W e (wVar i) := by
  refine peW h fun σ H Q ⟨A, F, ρ, Qd, Xd, e, h, hq, hx⟩ => ?_
  obtain ⟨d, hi, h⟩ := sl_iff.mp h
  cases m : d.mayFreeze with
  | false => rw [m] at h; exact h.elim
  | true =>
    rw [m] at h
    obtain ⟨v, f1, g, f2, ev, rfl, p, back⟩ := EnvR.at_ ρ σ F i d hi e.r
    have nd := e.nd
    have nd2 : (f1 ++ f2).Nodup := nd.sublist (by rw [List.append_assoc]; exact List.Sublist.append_left (List.sublist_append_right ..) _)
    have hs : ∀ a ∈ f1 ++ f2, a ∉ g := fun a ha hg => by
      rw [List.append_assoc] at nd
      have n1 := List.nodup_append.mp nd
      rcases List.mem_append.mp ha with ha | ha
      · exact n1.2.2 a ha a (List.mem_append_left _ hg) rfl
      · exact (List.nodup_append.mp n1.2.1).2.2 a hg a ha rfl
    refine ⟨v, ev, hq _ _ h (Less A g) (f1 ++ f2) H v [] ⟨⟨.refl _, fun a ha => .inl ?_, fun a ha => .inl ha.1, fun a ha n => ⟨ha, fun z => n (by simp [z])⟩⟩, ⟨?_, nd2, fun a ha => e.al a ha.1, e.pr⟩, Rp.freeze g d v g (fun _ h => h) m p, by simpa using nd2, by simp⟩⟩
    · rcases List.mem_append.mp ha with ha | ha <;> simp [ha]
    · have r := back (Less A g) H d.freeze v [] (fun r s h a b => EnvR.less g r s h (fun z hz => hs z (b z hz)) a) (Rp.freeze g d v g (fun _ h => h) m p)
      have e2 : σ.set i (some v) = σ := set_same ev
      rw [e2] at r
      simpa using r
/-- a variable that is given up: what it owns goes along -/
theorem EnvR.take {A : Addr → Prop} {H : Hp} : ∀ (ρ : Rho) (σ : L2.St) (f : List Addr) (i : Nat) (d : D), ρ[i]? = some (some d) → EnvR B A H ρ σ f → ∃ v f1 g f2, σ[i]? = some (some v) ∧ f = f1 ++ g ++ f2 ∧ Rp B A H d v g ∧ EnvR B A H (ρ.set i none) σ (f1 ++ f2)
  | [], _, _, _, _, e, _ => by simp at e
  | none :: ρ, _, f, 0, d, e, h => by simp at e
  | some d0 :: ρ, _, f, 0, d, e, h => by
    rw [EnvR] at h
    obtain ⟨v, σr, g, k, rfl, rfl, p, h⟩ := h
    simp at e
    subst e
    exact ⟨v, [], g, k, by simp, by simp, p, by rw [List.set_cons_zero, EnvR]; exact ⟨_, _, rfl, h⟩⟩
  | none :: ρ, _, f, i + 1, d, e, h => by
    rw [EnvR] at h
    obtain ⟨x0, σr, rfl, h⟩ := h
    obtain ⟨v, f1, g, f2, e1, rfl, p, q⟩ := EnvR.take ρ σr f i d (by simpa using e) h
    exact ⟨v, f1, g, f2, by simpa using e1, rfl, p, by rw [List.set_cons_succ, EnvR]; exact ⟨_, _, rfl, q⟩⟩
  | some d0 :: ρ, _, f, i + 1, d, e, h => by
    rw [EnvR] at h
    obtain ⟨v0, σr, g0, k, rfl, rfl, p0, h⟩ := h
    obtain ⟨v, f1, g, f2, e1, rfl, p, q⟩ := EnvR.take ρ σr k i d (by simpa using e) h
    exact ⟨v, g0 ++ f1, g, f2, by simpa using e1, by simp, p, by rw [List.set_cons_succ, EnvR]; exact ⟨v0, _, g0, _, rfl, by simp, p0, q⟩⟩
theorem de_fz (h : DE B X pr W e wa) : DE B X pr W e (wFz wa) := by
  refine peW h fun σ H Q ⟨A, F, ρ, Qd, Xd, e, h, hq, hx⟩ => ⟨A, F, ρ, _, Xd, e, h, fun d ρ' hd A' F' H' v f o => ?_, hx⟩
  cases m : d.mayFreeze with
  | false => rw [m] at hd; exact hd.elim
  | true => rw [m] at hd; exact hq _ _ hd _ _ _ _ _ (Out.freeze e o m)
theorem RpA.len {A : Addr → Prop} {H : Hp} : ∀ (ds : List D) (vs : List V) (f : List Addr), RpA B A H ds vs f → vs.length = ds.length
  | [], _, _, h => by rw [RpA] at h; obtain ⟨rfl, _⟩ := h; rfl
  | d :: ds, _, _, h => by rw [RpA] at h; obtain ⟨v, vr, g, k, rfl, rfl, p, q⟩ := h; simp [RpA.len ds vr k q]
theorem OutA.growT {A A' : Addr → Prop} {F F' : List Addr} {H H' : Hp} {σ : L2.St} {ρ ρ' : Rho} {vs : List V} {ds : List D} {f : List Addr} {q : Addr} (o : OutA B A F H pr σ A' F' H' ρ' vs ds f) (hq : H' q = none) (e : Env B A H pr σ ρ F) : Out B A F H pr σ A' F' (upd H' q (.tup vs)) ρ' (.ref q) (.tup ds) f := by
  have g : Grow A' H' A' (upd H' q (.tup vs)) [] := Grow.tup (Keep.new hq)
  have e2 := o.env.grow g (by simp)
  have s2 : Step A' F' H' A' F' (upd H' q (.tup vs)) := ⟨⟨fun b u _ h => g.keep.at_ b u (by simp) h, g.keep.imm⟩, fun a h => .inl h, fun a h => .inl h, fun a h _ => h⟩
  refine ⟨o.step.trans e.al e.fa s2, e2, ?_, o.nd, o.src⟩
  rw [Rp]
  exact ⟨q, vs, rfl, SqT.of upd_same, RpA.stay g.stays ds vs f (by simp) o.val⟩
theorem OutA.growL {A A' : Addr → Prop} {F F' : List Addr} {H H' : Hp} {σ : L2.St} {ρ ρ' : Rho} {vs : List V} {ds : List D} {f : List Addr} {q : Addr} (o : OutA B A F H pr σ A' F' H' ρ' vs ds f) (m : D.mayFreezeA ds = true) (hq : H' q = none) (e : Env B A H pr σ ρ F) : Out B A F H pr σ (More (Less A' f) q) F' (upd H' q (.lst vs)) ρ' (.ref q) (.lst true (D.freezeA ds)) [q] := by
  have nd := List.nodup_append.mp o.nd
  have e1 := o.env.less f fun a ha hf => nd.2.2 a hf a ha rfl
  have g : Grow (Less A' f) H' (More (Less A' f) q) (upd H' q (.lst vs)) [q] := Grow.own (Keep.new hq) hq
  have s1 : Step A F H (Less A' f) F' H' := ⟨o.step.keep, o.step.fo, fun a z => o.step.ao a z.1, fun a z n => ⟨o.step.ak a z n, fun hf => (o.src a hf).elim n (e.al a z)⟩⟩
  refine Out.seq e s1 (Out.grow e1 g ?_)
  rw [Rp]
  exact ⟨q, vs, rfl, RpA.stay g.stays _ vs [] (by simp) (RpA.freeze f ds vs f (fun _ h => h) m o.val), upd_same, .inr rfl, rfl⟩
theorem de_tup {x1} (h : DWs B X pr W es ws) : DE B X pr W (.Tuple es x1 pos) (wTup ws) := by
  refine peW (pe_tup h) fun σ H Q ⟨A, F, ρ, Qd, Xd, e, h, hq, hx⟩ => lift_ws ws e h hx fun ds ρ' hd A' F' H' vs f o => ?_
  cases m : decide (ds.length ≤ 1000) with
  | false => rw [m] at hd; exact hd.elim
  | true =>
    rw [m] at hd
    have hz : ds.length ≤ 1000 := of_decide_eq_true m
    have hl := RpA.len _ _ _ o.val
    exact ⟨sz_le (by omega), fun q hp => hq _ _ hd _ _ _ _ _ (o.growT hp e)⟩
theorem de_lst (h : DWs B X pr W es ws) : DE B X pr W (.List es pos) (wLst ws) := by
  refine peW (pe_lst h) fun σ H Q ⟨A, F, ρ, Qd, Xd, e, h, hq, hx⟩ => lift_ws ws e h hx fun ds ρ' hd A' F' H' vs f o => ?_
  cases m : (decide (ds.length ≤ 1000) && D.mayFreezeA ds) with
  | false => rw [m] at hd; exact hd.elim
  | true =>
    rw [m] at hd
    obtain ⟨m1, m2⟩ := Bool.and_eq_true_iff.mp m
    have hz : ds.length ≤ 1000 := of_decide_eq_true m1
    have hl := RpA.len _ _ _ o.val
    exact ⟨sz_le (by omega), fun q hp => hq _ _ hd _ _ _ _ _ (o.growL m2 hp e)⟩
theorem lift_test {w : WD} {σ : L2.St} {H : Hp} {Q : Bool → Hp → Prop} (h : liftT B pr W (wT w) σ H Q) : liftE B pr W w σ H fun x H' => ∃ k, x = .bl k ∧ Q k H' := by
  obtain ⟨A, F, ρ, Qd, Xd, e, h, hq, hx⟩ := h
  refine ⟨A, F, ρ, _, Xd, e, h, fun d ρ' hd A' F' H' v f o => ?_, hx⟩
  cases d with
  | bl b =>
    have := o.val
    rw [Rp] at this
    obtain ⟨rfl, rfl⟩ := this
    exact ⟨b, rfl, hq b ρ' hd _ _ _ o.step o.env⟩
  | _ => exact hd.elim
theorem dt_val (h : DE B X pr W e wa) (he : ∀ whole, isTrue e X.env whole = (do let v ← whole; standAt e.pos; holding [v] (truthy v)) := by intro _; rfl) : DT B X pr W e (wT wa) := ptW (pt_val h he) fun _ _ _ h => lift_test h
theorem dt_cmp {op : CmpOp} {r : R2} {g : D → D → (D → Prop) → Prop} (ho : OpR X (compareOp op) r) (hs : Sim2 B r g) (ha : DO B X pr W a oa) (hb : DO B X pr W b ob) (hm : behindInMarks op b = false) : DT B X pr W (.Compare a [op] [b] pos) (wT (wOp g oa ob)) :=
  ptW (pt_cmpR ho ha hb hm) fun _ _ _ h => lift_op hs (lift_test h)
theorem dt_not (h : DT B X pr W a ta) : DT B X pr W (.UnaryOp .Not a pos) (wNotT ta) := ptW (pt_not h) fun σ H Q ⟨A, F, ρ, Qd, Xd, e, h, hq, hx⟩ => ⟨A, F, ρ, _, Xd, e, h, fun b ρ' hd A' F' H' s e' => hq _ _ hd _ _ _ s e', hx⟩
theorem dw_and1 (h : DT B X pr W a ta) : DW B X pr W (.BoolOp .And [a] pos) ta := pw_and1 h
theorem dw_or1 (h : DT B X pr W a ta) : DW B X pr W (.BoolOp .Or [a] pos) ta := pw_or1 h
theorem dw_and {rest : List Expr} (ha : DT B X pr W a ta) (hb : DW B X pr W (.BoolOp .And (b :: rest) pos) tb) : DW B X pr W (.BoolOp .And (a :: b :: rest) pos) (wAndT ta tb) := by
  refine pwW (pw_and ha hb) fun σ H Q ⟨A, F, ρ, Qd, Xd, e, h, hq, hx⟩ => ⟨A, F, ρ, _, Xd, e, h, fun c ρ' hd A' F' H' s e' => ?_, hx⟩
  cases c with
  | true => rw [if_pos rfl] at hd ⊢; exact ⟨A', F', ρ', _, Xd, e', hd, fun b ρ2 hb A2 F2 H2 s2 e2 => hq _ _ hb _ _ _ (s.trans e.al e.fa s2) e2, hx.shift e s⟩
  | false => rw [if_neg (by simp)] at hd ⊢; exact hq _ _ hd _ _ _ s e'
theorem dw_or {rest : List Expr} (ha : DT B X pr W a ta) (hb : DW B X pr W (.BoolOp .Or (b :: rest) pos) tb) : DW B X pr W (.BoolOp .Or (a :: b :: rest) pos) (wOrT ta tb) := by
  refine pwW (pw_or ha hb) fun σ H Q ⟨A, F, ρ, Qd, Xd, e, h, hq, hx⟩ => ⟨A, F, ρ, _, Xd, e, h, fun c ρ' hd A' F' H' s e' => ?_, hx⟩
  cases c with
  | false => rw [if_neg (by simp)] at hd ⊢; exact ⟨A', F', ρ', _, Xd, e', hd, fun b ρ2 hb A2 F2 H2 s2 e2 => hq _ _ hb _ _ _ (s.trans e.al e.fa s2) e2, hx.shift e s⟩
  | true => rw [if_pos rfl] at hd ⊢; exact hq _ _ hd _ _ _ s e'
theorem dw_pt (h : DW B X pr W e ta) : DT B X pr W e ta := PW.pt h
theorem rp_bl {A : Addr → Prop} {H : Hp} {k : Bool} : Rp B A H (.bl k) (.bl k) [] := by rw [Rp]; exact ⟨rfl, rfl⟩
theorem rp_int {A : Addr → Prop} {H : Hp} {k : Int} : Rp B A H (.int k) (.int k) [] := by rw [Rp]; exact ⟨rfl, rfl⟩
theorem rp_str {A : Addr → Prop} {H : Hp} {k : Str} : Rp B A H (.str k) (.str k) [] := by rw [Rp]; exact ⟨rfl, rfl⟩
theorem rp_non {A : Addr → Prop} {H : Hp} : Rp B A H .non .non [] := by rw [Rp]; exact ⟨rfl, rfl⟩
theorem de_one {op} (h : DE B X pr W a wa) : DE B X pr W (.BoolOp op [a] pos) wa := pe_one h
theorem de_and {rest : List Expr} (ha : DE B X pr W a wa) (hb : DE B X pr W (.BoolOp .And (b :: rest) pos) wb) : DE B X pr W (.BoolOp .And (a :: b :: rest) pos) (wAndV wa wb) := by
  refine peW (pe_and ha hb) fun σ H Q ⟨A, F, ρ, Qd, Xd, e, h, hq, hx⟩ => ⟨A, F, ρ, _, Xd, e, h, fun d ρ' hd A' F' H' v f o => ?_, hx⟩
  cases d with
  | bl c =>
    have := o.val
    rw [Rp] at this
    obtain ⟨rfl, rfl⟩ := this
    refine ⟨c, rfl, ?_⟩
    cases c with
    | true => rw [if_pos rfl]; simp only [if_true] at hd; exact ⟨A', F', ρ', _, Xd, o.env, hd, fun d ρ2 hb A2 F2 H2 v f o2 => hq _ _ hb _ _ _ _ _ (Out.seq e o.step o2), hx.shift e o.step⟩
    | false => rw [if_neg (by simp)]; simp only [Bool.false_eq_true, if_false] at hd; exact hq _ _ hd _ _ _ _ _ (Out.seq e o.step (Out.scal o.env rp_bl))
  | _ => exact hd.elim
end
end DL
namespace DL
open PySem PySem.Spec PyProof.Rows L2 PB
structure DEnds where
  nx : Rho → Prop
  rt : D → Rho → Prop
  xx : XD
  bk : Rho → Prop := fun _ => False
  ct : Rho → Prop := fun _ => False
abbrev WS := DEnds → Rho → Prop
/-- targets -/
abbrev WG := D → Rho → (Rho → Prop) → Prop
abbrev WGs := List D → Rho → (Rho → Prop) → Prop
abbrev WI := Rho → (List D → Rho → Prop) → XD → Prop
structure EndsOk (B : Bs) (pr : Nat → Option V) (W : WX) (A : Addr → Prop) (F : List Addr) (H : Hp) (Ed : DEnds) (E : Ends) : Prop where
  nx : ∀ ρ', Ed.nx ρ' → ∀ σ' A' F' H', Step A F H A' F' H' → Env B A' H' pr σ' ρ' F' → E.nx σ' H'
  bk : ∀ ρ', Ed.bk ρ' → ∀ σ' A' F' H', Step A F H A' F' H' → Env B A' H' pr σ' ρ' F' → E.bk σ' H'
  ct : ∀ ρ', Ed.ct ρ' → ∀ σ' A' F' H', Step A F H A' F' H' → Env B A' H' pr σ' ρ' F' → E.ct σ' H'
  rt : ∀ d ρ', Ed.rt d ρ' → ∀ σ' A' F' H' v f, Out B A F H pr σ' A' F' H' ρ' v d f → E.rt v H'
  xx : ExOk B pr W A F H Ed.xx
def liftS (B : Bs) (pr : Nat → Option V) (W : WX) (s : WS) : TS := fun E σ H => ∃ A F ρ Ed, Env B A H pr σ ρ F ∧ s Ed ρ ∧ EndsOk B pr W A F H Ed E
/-- two frames that differ at L alone -/
def Agree (L : List Nat) (σ σ' : L2.St) : Prop := σ'.length = σ.length ∧ ∀ i : Nat, i ∉ L → σ'[i]? = σ[i]?
theorem Agree.refl (L : List Nat) (σ : L2.St) : Agree L σ σ := ⟨rfl, fun _ _ => rfl⟩
theorem Agree.trans {L M : List Nat} {σ σ' σ'' : L2.St} (a : Agree L σ σ') (b : Agree M σ' σ'') : Agree (L ++ M) σ σ'' := ⟨b.1.trans a.1, fun i h => (b.2 i fun z => h (List.mem_append_right _ z)).trans (a.2 i fun z => h (List.mem_append_left _ z))⟩
theorem Agree.set {i : Nat} {σ : L2.St} {x : Option V} : Agree [i] σ (σ.set i x) := ⟨List.length_set .., fun j h => by rw [List.getElem?_set]; simp at h; simp [Ne.symm h]⟩
def liftG (B : Bs) (pr : Nat → Option V) (L : List Nat) (g : WG) : TG := fun v σ H Q => ∃ A F ρ d f Kd, Env B A H pr σ ρ F ∧ Rp B A H d v f ∧ (f ++ F).Nodup ∧ g d ρ Kd ∧ ∀ ρ', Kd ρ' → ∀ σ' A' F' H', Agree L σ σ' → Step A (f ++ F) H A' F' H' → Env B A' H' pr σ' ρ' F' → Q σ' H'
def liftGs (B : Bs) (pr : Nat → Option V) (L : List Nat) (g : WGs) : TGs := fun vs σ H Q => ∃ A F ρ ds f Kd, Env B A H pr σ ρ F ∧ RpA B A H ds vs f ∧ (f ++ F).Nodup ∧ g ds ρ Kd ∧ ∀ ρ', Kd ρ' → ∀ σ' A' F' H', Agree L σ σ' → Step A (f ++ F) H A' F' H' → Env B A' H' pr σ' ρ' F' → Q σ' H'
/-- J walks these -/
def Yields (B : Bs) (A : Addr → Prop) (H : Hp) (J : It) (items : List D) : Prop :=
  ∀ i F A2 F2 H2, (∀ a ∈ F, A a) → Step A F H A2 F2 H2 → (∀ a, A2 a → H2 a ≠ none) →
    (∀ d, items[i]? = some d → J.go i H2 ∧ ∀ x H3, J.yld i H2 x H3 → ∃ A3 f, Grow A2 H2 A3 H3 f ∧ Rp B A3 H3 d x f) ∧ (items.length ≤ i → J.stop i H2)
def liftI (B : Bs) (pr : Nat → Option V) (W : WX) (w : WI) : TI := fun σ H R => ∃ A F ρ Qd Xd, Env B A H pr σ ρ F ∧ w ρ Qd Xd ∧ (∀ items ρ', Qd items ρ' → ∀ A' F' H' J, Step A F H A' F' H' → Env B A' H' pr σ ρ' F' → Yields B A' H' J items → R J H') ∧ ExOk B pr W A F H Xd
def DS (B : Bs) (X : Cx) (pr : Nat → Option V) (W : WX) (st : Stmt) (s : WS) : Prop := PS X st (liftS B pr W s)
def DSs (B : Bs) (X : Cx) (pr : Nat → Option V) (W : WX) (sts : List Stmt) (s : WS) : Prop := PSs X sts (liftS B pr W s)
def DG (B : Bs) (X : Cx) (pr : Nat → Option V) (L : List Nat) (tg : Expr) (g : WG) : Prop := PG X tg (liftG B pr L g)
def DI (B : Bs) (X : Cx) (pr : Nat → Option V) (W : WX) (tg it : Expr) (w : WI) : Prop := PI X tg it (liftI B pr W w)
def sNext : WS := fun E ρ => E.nx ρ
def sSeq (s u : WS) : WS := fun E ρ => s { E with nx := fun ρ' => u E ρ' } ρ
def sCut (s u : WS) : WS := fun E ρ => ∃ Mid : Rho → Prop, s { E with nx := Mid } ρ ∧ ∀ ρ', Mid ρ' → u E ρ'
def sIf (t : WT) (s u : WS) : WS := fun E ρ => t ρ (fun b ρ' => if b = true then s E ρ' else u E ρ') E.xx
def sSet (i : Nat) (w : WD) : WS := fun E ρ => w ρ (fun d ρ' => E.nx (ρ'.set i (some d))) E.xx
def sAsg (w : WD) (g : WG) : WS := fun E ρ => w ρ (fun d ρ' => g d ρ' E.nx) E.xx
def sAug (g : D → D → (D → Prop) → Prop) (i : Nat) (w : WD) : WS := fun E ρ => sl ρ i fun _ => w ρ (fun d2 ρ2 => sl ρ2 i fun d1 => g d1 d2 fun d => E.nx (ρ2.set i (some d))) E.xx
def sRet (w : WD) : WS := fun E ρ => w ρ E.rt E.xx
def sRetN : WS := fun E ρ => E.rt .non ρ
def sDrop (w : WD) : WS := fun E ρ => w ρ (fun _ ρ' => E.nx ρ') E.xx
def sBreak : WS := fun E ρ => E.bk ρ
def sCont : WS := fun E ρ => E.ct ρ
def gN (i : Nat) : WG := fun d ρ k => k (ρ.set i (some d))
def gT (n : Nat) (g : WGs) : WG := fun d ρ k => match d with
  | .tup ds => ds.length = n ∧ g ds ρ k
  | _ => False
def gsNil : WGs := fun ds ρ k => match ds with
  | [] => k ρ
  | _ => False
def gsCons (g : WG) (gs : WGs) : WGs := fun ds ρ k => match ds with
  | d :: ds => g d ρ fun ρ' => gs ds ρ' k
  | _ => False
def sFor (wi : WI) (g : WG) (body : WS) : WS := fun E ρ => wi ρ (fun items ρ1 => ∃ Inv : Nat → Rho → Prop, Inv 0 ρ1 ∧ (∀ k d ρ', items[k]? = some d → Inv k ρ' → g d ρ' fun ρ2 => body { E with nx := Inv (k + 1), ct := Inv (k + 1), bk := E.nx } ρ2) ∧ ∀ ρ', Inv items.length ρ' → E.nx ρ') E.xx
section
variable {B : Bs} {A A' A1 A2 A3 : Addr → Prop} {F F' F1 F2 F3 : List Addr} {H H' H1 H2 H3 : Hp} {pr : Nat → Option V} {σ σ' : L2.St} {ρ ρ1 ρ2 ρ3 : Rho} {v x y : V} {d d1 d2 : D} {f f1 f2 : List Addr} {W : WX} {Ed : DEnds} {E : Ends}
theorem EndsOk.shift (e : Env B A H pr σ ρ F) (s : Step A F H A1 F1 H1) (k : EndsOk B pr W A F H Ed E) : EndsOk B pr W A1 F1 H1 Ed E where
  nx := fun ρ' h σ' A' F' H' t e' => k.nx ρ' h σ' A' F' H' (s.trans e.al e.fa t) e'
  bk := fun ρ' h σ' A' F' H' t e' => k.bk ρ' h σ' A' F' H' (s.trans e.al e.fa t) e'
  ct := fun ρ' h σ' A' F' H' t e' => k.ct ρ' h σ' A' F' H' (s.trans e.al e.fa t) e'
  rt := fun d ρ' h σ' A' F' H' v f o => k.rt d ρ' h σ' A' F' H' v f ⟨s.trans e.al e.fa o.step, o.env, o.val, o.nd, fun a ha => by
    rcases o.src a ha with z | z
    · exact s.fo a z
    · by_cases hf : a ∈ F
      · exact .inl hf
      · refine .inr ?_
        cases q : H a with
        | none => rfl
        | some u => rw [s.keep.at_ a u hf q] at z; cases z⟩
  xx := k.xx.shift e s
/-- a slot is given a value -/
theorem Env.put (e : Env B A H pr σ ρ F) {i : Nat} (hi : pr i = none) (p : Rp B A H d v f) (nd : (f ++ F).Nodup) : ∃ F', (∀ a ∈ F', a ∈ f ++ F) ∧ Env B A H pr (σ.set i (some v)) (ρ.set i (some d)) F' := by
  have hp : ∀ j u, pr j = some u → (σ.set i (some v))[j]? = some (some u) := fun j u h => by
    rw [List.getElem?_set]
    by_cases hj : i = j
    · subst hj; rw [hi] at h; cases h
    · simp [hj, e.pr j u h]
  by_cases hl : i < ρ.length
  · obtain ⟨F0, s0, q⟩ := EnvR.off ρ σ F i e.r
    have h0 := q none
    obtain ⟨f1, f2, rfl, r⟩ := EnvR.put (ρ.set i none) (σ.set i none) F0 i d v f (by simpa using hl) (by simp [hl]) h0 p
    rw [List.set_set, List.set_set] at r
    have nd' : (f ++ (f1 ++ f2)).Nodup := nd.sublist (List.Sublist.append_left s0 f)
    refine ⟨f1 ++ f ++ f2, fun a ha => ?_, r, ?_, e.al, hp⟩
    · have : a ∈ f1 ++ f2 → a ∈ F := fun z => s0.subset z
      simp at ha this ⊢
      rcases ha with ha | ha | ha
      · exact .inr (this (.inl ha))
      · exact .inl ha
      · exact .inr (this (.inr ha))
    · rw [← List.append_assoc] at nd'
      exact (List.perm_append_comm.append_right f2).nodup_iff.mp nd'
  · have hl2 : ρ.length ≤ i := Nat.le_of_not_lt hl
    have hs := EnvR.len ρ σ F e.r
    refine ⟨F, fun a ha => by simp [ha], ?_⟩
    have e1 : ρ.set i (some d) = ρ := List.set_eq_of_length_le hl2
    have e2 : σ.set i (some v) = σ := List.set_eq_of_length_le (show List.length σ ≤ i from hs ▸ hl2)
    rw [e1, e2]
    exact e
/-- the step of a store into a slot -/
theorem Out.put {i : Nat} (e : Env B A H pr σ ρ F) (hi : pr i = none) (o : Out B A F H pr σ A1 F1 H1 ρ1 v d f) : ∃ F', Step A F H A1 F' H1 ∧ Env B A1 H1 pr (σ.set i (some v)) (ρ1.set i (some d)) F' := by
  obtain ⟨F', hs, e'⟩ := o.env.put hi o.val o.nd
  refine ⟨F', ⟨o.step.keep, fun a ha => ?_, o.step.ao, o.step.ak⟩, e'⟩
  rcases List.mem_append.mp (hs a ha) with z | z
  · exact o.src a z
  · exact o.step.fo a z
end
section
variable {B : Bs} {X : Cx} {pr : Nat → Option V} {W : WX} {a b c e o tg it : Expr} {tgs : List Expr} {es : List Expr} {pos p : Pos} {wa wb wc : WD} {ta tb : WT} {st : Stmt} {sts rest body : List Stmt} {s u : WS} {g : WG} {gs : WGs} {wi : WI} {L M : List Nat}
theorem psW {t t' : TS} (h : PS X st t) (m : ∀ D σ H, t' D σ H → t D σ H) : PS X st t' := ⟨fun pins s σ H D I q => h.run pins s σ H D I (m D σ H q)⟩
theorem pssW {t t' : TS} (h : PSs X sts t) (m : ∀ D σ H, t' D σ H → t D σ H) : PSs X sts t' := ⟨fun pins s σ H D I q => h.run pins s σ H D I (m D σ H q)⟩
theorem pgW {t t' : TG} (h : PG X tg t) (m : ∀ v σ H Q, t' v σ H Q → t v σ H Q) : PG X tg t' := ⟨fun pins s σ H v u Q I r q => h.run pins s σ H v u Q I r (m _ _ _ _ q)⟩
theorem piW {t t' : TI} (h : PI X tg it t) (m : ∀ σ H R, t' σ H R → t σ H R) : PI X tg it t' := ⟨fun pins s σ H R I q => h.run pins s σ H R I (m _ _ _ q)⟩
theorem dss_nil : DSs B X pr W [] sNext := pssW pss_nil fun D σ H ⟨A, F, ρ, Ed, e, h, k⟩ => k.nx ρ h σ A F H (Step.refl A F H) e
theorem dss_one (h : DS B X pr W st s) : DSs B X pr W [st] s := pss_one h
theorem lift_seq {D : Ends} {σ : L2.St} {H : Hp} (h : liftS B pr W (sCut s u) D σ H) : tSeq (liftS B pr W s) (liftS B pr W u) D σ H := by
  obtain ⟨A, F, ρ, Ed, e, ⟨Mid, h1, h2⟩, k⟩ := h
  exact ⟨A, F, ρ, _, e, h1, fun ρ' hm σ' A' F' H' t e' => ⟨A', F', ρ', Ed, e', h2 ρ' hm, k.shift e t⟩, k.bk, k.ct, k.rt, k.xx⟩
theorem dss_cons (h : DS B X pr W st s) (hr : DSs B X pr W sts u) : DSs B X pr W (st :: sts) (sSeq s u) := pssW (pss_cons h hr) fun D σ H ⟨A, F, ρ, Ed, e, h, k⟩ => lift_seq ⟨A, F, ρ, Ed, e, ⟨_, h, fun _ h => h⟩, k⟩
theorem dss_cut (h : DS B X pr W st s) (hr : DSs B X pr W sts u) : DSs B X pr W (st :: sts) (sCut s u) := pssW (pss_cons h hr) fun D σ H h => lift_seq h
theorem ds_if (hc : DT B X pr W c ta) (ha : DSs B X pr W sts s) (hb : DSs B X pr W rest u) : DS B X pr W (.If c sts rest pos) (sIf ta s u) := by
  refine psW (ps_if hc ha hb) fun D σ H ⟨A, F, ρ, Ed, e, h, k⟩ => ⟨A, F, ρ, _, Ed.xx, e, h, fun b ρ' hb A' F' H' t e' => ?_, k.xx⟩
  cases b with
  | true => rw [if_pos rfl] at hb ⊢; exact ⟨A', F', ρ', Ed, e', hb, k.shift e t⟩
  | false => rw [if_neg (by simp)] at hb ⊢; exact ⟨A', F', ρ', Ed, e', hb, k.shift e t⟩
theorem ds_set {i : Nat} {x : Str} {pos' : Pos} (hN : X.N.Nodup) (hi : X.N[i]? = some x) (hx : Loc X.env.scope x) (he : DE B X pr W e wa) (hp : pr i = none := by rfl) (hs : swapsWith e (some (.Name x pos')) pos.line X.env = pure false := by rfl) (hf : X.fn x = true ∨ X.env.scope.names.lookup x = some .local := by first | exact .inl rfl | exact .inr rfl | assumption) :
    DS B X pr W (.Assign [.Name x pos'] e pos) (sSet i wa) := by
  refine psW (ps_set hN hi hx he hs hf) fun D σ H ⟨A, F, ρ, Ed, en, h, k⟩ => ⟨A, F, ρ, _, Ed.xx, en, h, fun d ρ' hd A' F' H' v f o => ?_, k.xx⟩
  obtain ⟨F2, t, e2⟩ := o.put en hp
  exact k.nx _ hd _ _ _ _ t e2
theorem ds_asg (he : DE B X pr W e wa) (hg : DG B X pr L tg g) (hs : swapsWithSole [tg] e pos.line X.env = pure false := by rfl) (hw : swappedStores [tg] e X.env = pure none := by rfl) (h1 : (assignEach [tg] X.env).map (·.2) = [assign tg X.env] := by rfl) : DS B X pr W (.Assign [tg] e pos) (sAsg wa g) := by
  refine psW (ps_asg he hg hs hw h1) fun D σ H ⟨A, F, ρ, Ed, en, h, k⟩ => ⟨A, F, ρ, _, Ed.xx, en, h, fun d ρ' hd A' F' H' v f o => ?_, k.xx⟩
  refine ⟨A', F', ρ', d, f, _, o.env, o.val, o.nd, hd, fun ρ2 h2 σ2 A2 F2 H2 _ t e2 => k.nx ρ2 h2 σ2 A2 F2 H2 ?_ e2⟩
  have fo2 : ∀ a ∈ f ++ F', a ∈ F ∨ H a = none := fun a ha => (List.mem_append.mp ha).elim (o.src a) (o.step.fo a)
  have e' : Step A F H A' (f ++ F') H' := ⟨o.step.keep, fo2, o.step.ao, o.step.ak⟩
  exact e'.trans en.al en.fa t
theorem dg_name {i : Nat} (h : PG X tg (gName i)) (hp : pr i = none := by rfl) : DG B X pr [i] tg (gN i) := by
  refine pgW h fun v σ H Q ⟨A, F, ρ, d, f, Kd, e, r, nd, h, k⟩ => ?_
  obtain ⟨F', hs, e'⟩ := e.put hp r nd
  exact k _ h _ A F' H Agree.set ⟨.refl _, fun a ha => .inl (hs a ha), fun a ha => .inl ha, fun a ha _ => ha⟩ e'
theorem dg_tup {n : Nat} {K : PySem.W.Frag} {t : TGs} (h : PG X tg (gTup K n t)) (hK : B.K = K := by rfl) (hm : ∀ v σ H Q, liftGs B pr L gs v σ H Q → t v σ H Q) : DG B X pr L tg (gT n gs) := by
  refine pgW h fun v σ H Q ⟨A, F, ρ, d, f, Kd, e, r, nd, h, k⟩ => ?_
  subst hK
  cases d with
  | tup ds =>
    rw [Rp] at r
    obtain ⟨a, vs, rfl, q, r⟩ := r
    exact ⟨a, vs, rfl, q, (RpA.len _ _ _ r).trans h.1, hm _ _ _ _ ⟨A, F, ρ, ds, f, Kd, e, r, nd, h.2, k⟩⟩
  | _ => exact h.elim
theorem lift_gsNil (v : List V) (σ : L2.St) (H : Hp) (Q : L2.St → Hp → Prop) (h : liftGs B pr [] gsNil v σ H Q) : gNil v σ H Q := by
  obtain ⟨A, F, ρ, ds, f, Kd, e, r, nd, h, k⟩ := h
  cases ds with
  | nil =>
    rw [RpA] at r
    obtain ⟨rfl, rfl⟩ := r
    exact ⟨rfl, k ρ h σ A F H (Agree.refl _ _) (Step.refl A F H) e⟩
  | cons d ds => exact h.elim
theorem lift_gsCons {t : TGs} (hm : ∀ v σ H Q, liftGs B pr M gs v σ H Q → t v σ H Q) (v : List V) (σ : L2.St) (H : Hp) (Q : L2.St → Hp → Prop) (h : liftGs B pr (L ++ M) (gsCons g gs) v σ H Q) : gCons (liftG B pr L g) t v σ H Q := by
  obtain ⟨A, F, ρ, ds, f, Kd, e, r, nd, h, k⟩ := h
  cases ds with
  | nil => exact h.elim
  | cons d ds =>
    rw [RpA] at r
    obtain ⟨x, vr, f1, f2, rfl, rfl, p, q⟩ := r
    have n0 := List.nodup_append.mp nd
    have n1 := List.nodup_append.mp n0.1
    have n2 : (f1 ++ F).Nodup := List.nodup_append.mpr ⟨n1.1, n0.2.1, fun a ha b hb => n0.2.2 a (List.mem_append_left _ ha) b hb⟩
    have dis : ∀ a ∈ f2, a ∉ f1 ++ F := fun a ha hb => by
      rcases List.mem_append.mp hb with hb | hb
      · exact n1.2.2 a hb a ha rfl
      · exact n0.2.2 a (List.mem_append_right _ ha) a hb rfl
    refine ⟨x, vr, rfl, A, F, ρ, d, f1, _, e, p, n2, h, fun ρ' h' σ' A' F' H' ag t' e' => ?_⟩
    have fa : ∀ a ∈ f1 ++ F, A a := fun a ha => (List.mem_append.mp ha).elim (fun z => (Rp.own _ _ _ p a z).1) (e.fa a)
    have own2 := RpA.own _ _ _ q
    have q' := RpA.stay (B := B) ⟨t'.keep, fa, t'.ao, t'.ak⟩ ds vr f2 dis q
    have n3 : (f2 ++ F').Nodup := List.nodup_append.mpr ⟨n1.2.1, e'.nd, fun a ha b hb z => by
      subst z
      rcases t'.fo a hb with z | z
      · exact dis a ha z
      · exact (own2 a ha).2 z⟩
    refine hm _ _ _ _ ⟨A', F', ρ', ds, f2, Kd, e', q', n3, h', fun ρ2 h2 σ2 A2 F2 H2 ag2 t2 e2 => k ρ2 h2 σ2 A2 F2 H2 (ag.trans ag2) ?_ e2⟩
    have al : ∀ a, A a → H a ≠ none := e.al
    refine ⟨⟨fun b o n q => ?_, fun b o i q => t2.keep.imm b o i (t'.keep.imm b o i q)⟩, fun a ha => ?_, fun a ha => ?_, fun a ha n => ?_⟩
    · have nb : b ∉ f1 ++ F := fun z => n (by simp at z ⊢; rcases z with z | z <;> simp [z])
      refine t2.keep.at_ b o (fun z => ?_) (t'.keep.at_ b o nb q)
      rcases List.mem_append.mp z with z | z
      · exact n (by simp [z])
      · rcases t'.fo b z with z | z
        · exact nb z
        · rw [q] at z; cases z
    · rcases t2.fo a ha with z | z
      · rcases List.mem_append.mp z with z | z
        · exact .inl (by simp [z])
        · rcases t'.fo a z with z | z
          · refine .inl ?_; simp at z ⊢; rcases z with z | z <;> simp [z]
          · exact .inr z
      · by_cases hf : a ∈ f1 ++ F
        · refine .inl ?_; simp at hf ⊢; rcases hf with z | z <;> simp [z]
        · refine .inr ?_
          cases w : H a with
          | none => rfl
          | some u => rw [t'.keep.at_ a u hf w] at z; cases z
    · rcases t2.ao a ha with z | z
      · exact t'.ao a z
      · by_cases hf : a ∈ f1 ++ F
        · exact .inl (fa a hf)
        · refine .inr ?_
          cases w : H a with
          | none => rfl
          | some u => rw [t'.keep.at_ a u hf w] at z; cases z
    · have nb : a ∉ f1 ++ F := fun z => n (by simp at z ⊢; rcases z with z | z <;> simp [z])
      refine t2.ak a (t'.ak a ha nb) fun z => ?_
      rcases List.mem_append.mp z with z | z
      · exact n (by simp [z])
      · rcases t'.fo a z with z | z
        · exact nb z
        · exact al a ha z
theorem ds_ret (he : DE B X pr W e wa) : DS B X pr W (.Return (some e) pos) (sRet wa) :=
  psW (ps_ret he) fun D σ H ⟨A, F, ρ, Ed, en, h, k⟩ => ⟨A, F, ρ, _, Ed.xx, en, h, fun d ρ' hd A' F' H' v f o => k.rt d ρ' hd σ A' F' H' v f o, k.xx⟩
theorem ds_expr (he : DE B X pr W e wa) (hs : swapsWith e none pos.line X.env = pure false := by rfl) : DS B X pr W (.Expr e pos) (sDrop wa) :=
  psW (ps_expr he hs) fun D σ H ⟨A, F, ρ, Ed, en, h, k⟩ => ⟨A, F, ρ, _, Ed.xx, en, h, fun d ρ' hd A' F' H' v f o => k.nx ρ' hd σ A' F' H' o.step o.env, k.xx⟩
theorem ds_for (hp : PassesOwn (model X.prog X.w) X.A X.env X.xe) (hc : X.calm = true) (hi : DI B X pr W tg it wi) (hg : DG B X pr L tg g) (hb : DSs B X pr W body s) (hs : ∀ x, foldedSetIterable it X.env x = pure x := by intro _; rfl) :
    DS B X pr W (.For tg it body [] pos) (sFor wi g s) := by
  refine psW (ps_for hp hc hi hg hb hs) fun D σ H ⟨A, F, ρ, Ed, en, h, k⟩ => ?_
  refine ⟨A, F, ρ, _, Ed.xx, en, h, fun items ρ1 hd A1 F1 H1 J t1 e1 y => ?_, k.xx⟩
  obtain ⟨Iv, i0, turn, last⟩ := hd
  refine ⟨fun i m σ' H' => i + m = items.length ∧ ∃ A' F' ρ', Step A1 F1 H1 A' F' H' ∧ Env B A' H' pr σ' ρ' F' ∧ Iv i ρ', ⟨items.length, by omega, A1, F1, ρ1, Step.refl A1 F1 H1, e1, i0⟩, ?_⟩
  rintro i m σ' H' ⟨him, A2, F2, ρ2, t2, e2, i2⟩
  obtain ⟨y1, y2⟩ := y i F1 A2 F2 H' e1.fa t2 e2.al
  have t12 := t1.trans en.al en.fa t2
  cases m with
  | zero =>
    have hl : i = items.length := by omega
    subst hl
    exact .inl ⟨y2 (Nat.le_refl _), k.nx ρ2 (last ρ2 i2) σ' A2 F2 H' t12 e2⟩
  | succ m =>
    have hl : i < items.length := by omega
    have hd := List.getElem?_eq_getElem hl
    obtain ⟨go, yl⟩ := y1 _ hd
    refine .inr ⟨go, fun σ3 H3 => ∃ A3 F3 ρ3, Step A1 F1 H1 A3 F3 H3 ∧ Env B A3 H3 pr σ3 ρ3 F3 ∧ Iv (i + 1) ρ3, fun σ3 H3 h3 => ⟨m, by omega, by omega, h3⟩, fun x H3 hy => ?_⟩
    obtain ⟨A3, f3, gr, r3⟩ := yl x H3 hy
    have o3 := Out.grow (B := B) (pr := pr) (σ := σ') (ρ := ρ2) (F := F2) e2 gr r3
    refine ⟨A3, F2, ρ2, _, f3, _, o3.env, r3, o3.nd, turn i _ ρ2 hd i2, fun ρ4 h4 σ4 A4 F4 H4 _ t4 e4 => ?_⟩
    have fo3 : ∀ a ∈ f3 ++ F2, a ∈ F2 ∨ H' a = none := fun a ha => (List.mem_append.mp ha).elim (o3.src a) fun z => .inl z
    have t24 : Step A2 F2 H' A4 F4 H4 := Step.trans e2.al e2.fa ⟨o3.step.keep, fo3, o3.step.ao, o3.step.ak⟩ t4
    have t14 := t12.trans en.al en.fa t24
    have k4 := k.shift en t14
    have nx : ∀ ρ', Iv (i + 1) ρ' → ∀ σ' A' F' H', Step A4 F4 H4 A' F' H' → Env B A' H' pr σ' ρ' F' → ∃ A3 F3 ρ3, Step A1 F1 H1 A3 F3 H' ∧ Env B A3 H' pr σ' ρ3 F3 ∧ Iv (i + 1) ρ3 :=
      fun ρ' hi σ' A' F' H' t' e' => ⟨A', F', ρ', (t2.trans e1.al e1.fa t24).trans e1.al e1.fa t', e', hi⟩
    exact ⟨A4, F4, ρ4, _, e4, h4, nx, fun ρ' h => k4.nx ρ' h, nx, k4.rt, k4.xx⟩
end
end DL
namespace DL
open PySem PySem.Spec PyProof.Rows L2 PB
abbrev DSp := List D → (D → List D → Prop) → (DX → List D → Prop) → Prop
/-- a def's promise by data: the arguments; the result and the arguments behind the call -/
def spOf (B : Bs) (s : DSp) : Sp := fun vs H Q E => ∃ A F ds Qd Xd, RpA B A H ds vs F ∧ F.Nodup ∧ (∀ a, A a → H a ≠ none) ∧ s ds Qd Xd ∧
  (∀ r ds', Qd r ds' → ∀ A' F' H' v f, Step A F H A' F' H' → RpA B A' H' ds' vs F' → Rp B A' H' r v f → (f ++ F').Nodup → (∀ a, A' a → H' a ≠ none) → (∀ a ∈ f, a ∈ F ∨ H a = none) → Q v H') ∧
  (∀ x ds', Xd x ds' → ∀ A' F' H' cls dd, Step A F H A' F' H' → RpA B A' H' ds' vs F' → F'.Nodup → (∀ a, A' a → H' a ≠ none) → XR B A' H' x cls dd → E cls dd H')
inductive Arg where
  | z (d : D)
  | s (i : Nat)
def wArgs : List Opd → Rho → (List Arg → Rho → Prop) → XD → Prop
  | [], ρ, Q, _ => Q [] ρ
  | .w w :: os, ρ, Q, X => w ρ (fun d ρ1 => cond d.mayFreeze (wArgs os ρ1 (fun as ρ2 => Q (.z d.freeze :: as) ρ2) X) False) X
  | .v i :: os, ρ, Q, X => sl ρ i fun _ => wArgs os ρ (fun as ρ2 => Q (.s i :: as) ρ2) X
def takeL : List Arg → Rho → (List D → Rho → Prop) → Prop
  | [], ρ, k => k [] ρ
  | .z d :: as, ρ, k => takeL as ρ fun ds ρ' => k (d :: ds) ρ'
  | .s i :: as, ρ, k => sl ρ i fun d => takeL as (ρ.set i none) fun ds ρ' => k (d :: ds) ρ'
def backL : List Arg → List D → Rho → Rho
  | [], _, ρ => ρ
  | .z _ :: as, ds, ρ => backL as ds.tail ρ
  | .s i :: as, ds, ρ => match ds with
    | d :: ds => backL as ds (ρ.set i (some d))
    | [] => ρ
/-- a def that is called -/
def callK (s : DSp) (dfl : List D) (as : List Arg) (ρ : Rho) (Q : QD) (X : XD) : Prop := takeL as ρ fun ds ρ2 => s (ds ++ dfl) (fun r ds' => Q r (backL as ds' ρ2)) (fun x ds' => X x (backL as ds' ρ2))
def wCall (s : DSp) (dfl : List D) (os : List Opd) : WD := fun ρ Q X => wArgs os ρ (fun as ρ1 => callK s dfl as ρ1 Q X) X
/-- an instance without an own attribute m -/
def isIns (c m : Str) (d : D) (k : Prop) : Prop := match d with
  | .ins _ c' ns _ => c' = c ∧ ns.contains m = false ∧ k
  | _ => False
def wRecv (c m : Str) : Opd → Rho → (Arg → Rho → Prop) → XD → Prop
  | .w w, ρ, Q, X => w ρ (fun d ρ1 => isIns c m d (cond d.mayFreeze (Q (.z d.freeze) ρ1) False)) X
  | .v i, ρ, Q, _ => sl ρ i fun d => isIns c m d (Q (.s i) ρ)
def wMeth (c m : Str) (s : DSp) (dfl : List D) (o : Opd) (os : List Opd) : WD := fun ρ Q X => wRecv c m o ρ (fun a ρ1 => wArgs os ρ1 (fun as ρ2 => callK s dfl (a :: as) ρ2 Q X) X) X
def makeK (c : Str) (s : DSp) (dfl : List D) (as : List Arg) (ρ : Rho) (Q : QD) (X : XD) : Prop := takeL as ρ fun ds ρ2 => s (.ins true c [] [] :: (ds ++ dfl)) (fun r ds' => match r, ds' with
    | .non, d :: ds'' => Q d (backL as ds'' ρ2)
    | _, _ => False) (fun x ds' => X x (backL as ds'.tail ρ2))
def wMake (c : Str) (s : DSp) (dfl : List D) (os : List Opd) : WD := fun ρ Q X => wArgs os ρ (fun as ρ1 => makeK c s dfl as ρ1 Q X) X
section
variable (B : Bs) (A : Addr → Prop) (H : Hp) (σ : L2.St)
def ArgR : Arg → V → Prop
  | .z d, v => Rp B A H d v []
  | .s i, v => σ[i]? = some (some v)
def ArgsR : List Arg → List V → Prop
  | [], vs => vs = []
  | a :: as, vs => ∃ v vr, vs = v :: vr ∧ ArgR B A H σ a v ∧ ArgsR as vr
end
section
variable {B : Bs} {A A' A1 A2 A3 : Addr → Prop} {F F' F1 F2 F3 : List Addr} {H H' H1 H2 H3 : Hp} {pr : Nat → Option V} {σ σ' : L2.St} {ρ ρ1 ρ2 ρ3 : Rho} {v x y : V} {d d1 d2 : D} {f f1 f2 : List Addr} {W : WX} {Xd : XD}
theorem lift_args : ∀ (os : List Opd) {σ : L2.St} {H : Hp} {A : Addr → Prop} {F : List Addr} {ρ : Rho} {Qd : List Arg → Rho → Prop} {Xd : XD} {QA : List V → Hp → Prop}, Env B A H pr σ ρ F → wArgs os ρ Qd Xd → ExOk B pr W A F H Xd →
    (∀ as ρ', Qd as ρ' → ∀ A' F' H' vs, Step A F H A' F' H' → Env B A' H' pr σ ρ' F' → ArgsR B A' H' σ as vs → QA vs H') → tOpds B pr W os σ H QA
  | [], σ, H, A, F, ρ, Qd, Xd, QA, e, h, hx, hq => hq [] ρ h A F H [] (Step.refl A F H) e rfl
  | .w w :: os, σ, H, A, F, ρ, Qd, Xd, QA, e, h, hx, hq => by
    refine ⟨A, F, ρ, _, Xd, e, h, fun d1 ρ1 h1 A1 F1 H1 x f1 o1 => ?_, hx⟩
    cases m : d1.mayFreeze with
    | false => rw [m] at h1; exact h1.elim
    | true =>
      rw [m] at h1
      have o2 := Out.freeze e o1 m
      refine lift_args os o2.env h1 (hx.shift e o2.step) fun as ρ' hd A' F' H' vs s e' pk => ?_
      exact hq (.z d1.freeze :: as) ρ' hd A' F' H' (x :: vs) (o2.step.trans e.al e.fa s) e' ⟨x, vs, rfl, Rp.stay (s.stays o2.env) _ _ _ (by simp) o2.val, pk⟩
  | .v i :: os, σ, H, A, F, ρ, Qd, Xd, QA, e, h, hx, hq => by
    obtain ⟨d0, hi, h1⟩ := sl_iff.mp h
    obtain ⟨x, g1, ex, _⟩ := e.at_ hi
    exact ⟨x, ex, lift_args os e h1 hx fun as ρ' hd A' F' H' vs s e' pk => hq (.s i :: as) ρ' hd A' F' H' (x :: vs) s e' ⟨x, vs, rfl, ex, pk⟩⟩
/-- the lent slots are free -/
def Free : List Arg → Rho → Prop
  | [], _ => True
  | .z _ :: as, ρ => Free as ρ
  | .s i :: as, ρ => ρ[i]? = some none ∧ (∀ ρ' : Rho, Free as ρ' → ∀ x, Free as (ρ'.set i x)) ∧ Free as ρ
theorem take_none : ∀ (as : List Arg) (ρ : Rho) (i : Nat) (k : List D → Rho → Prop), ρ[i]? = some none → takeL as ρ k → (∀ ρ' : Rho, Free as ρ' → ∀ x, Free as (ρ'.set i x))
  | [], _, _, _, _, _ => fun _ _ _ => trivial
  | .z d :: as, ρ, i, k, e, h => take_none as ρ i _ e h
  | .s j :: as, ρ, i, k, e, h => by
    obtain ⟨d, hj, h⟩ := sl_iff.mp h
    have hne : i ≠ j := fun z => by subst z; rw [e] at hj; cases hj
    have ih := take_none as (ρ.set j none) i _ (by rw [List.getElem?_set]; simp [Ne.symm hne, e]) h
    intro ρ' f x
    obtain ⟨f1, f2, f3⟩ := f
    exact ⟨by rw [List.getElem?_set]; simp [hne, f1], f2, ih ρ' f3 x⟩
theorem take_free : ∀ (as : List Arg) (ρ : Rho) (k : List D → Rho → Prop), takeL as ρ k → ∃ ds ρ2, k ds ρ2 ∧ Free as ρ2 ∧ (∀ i : Nat, ρ[i]? = some none → (ρ2 : Rho)[i]? = some none) ∧ ∀ (vs : List V) (A : Addr → Prop) (H : Hp) (σ : L2.St) (F : List Addr), EnvR B A H ρ σ F → ArgsR B A H σ as vs → ∃ Fa Fr, RpA B A H ds vs Fa ∧ EnvR B A H ρ2 σ Fr ∧ (Fa ++ Fr).Perm F
  | [], ρ, k, h => ⟨[], ρ, h, trivial, fun _ z => z, fun vs A H σ F e r => ⟨[], F, by rw [RpA]; exact ⟨r, rfl⟩, e, .refl _⟩⟩
  | .z d :: as, ρ, k, h => by
    obtain ⟨ds, ρ2, hk, fr, mo, q⟩ := take_free as ρ _ h
    refine ⟨d :: ds, ρ2, hk, fr, mo, fun vs A H σ F e r => ?_⟩
    obtain ⟨v, vr, rfl, r1, r2⟩ := r
    obtain ⟨Fa, Fr, p, e2, pm⟩ := q vr A H σ F e r2
    exact ⟨Fa, Fr, by rw [RpA]; exact ⟨v, vr, [], Fa, rfl, rfl, r1, p⟩, e2, pm⟩
  | .s i :: as, ρ, k, h => by
    obtain ⟨d, hi, h⟩ := sl_iff.mp h
    obtain ⟨ds, ρ2, hk, fr, mo, q⟩ := take_free as (ρ.set i none) _ h
    have hl : i < ρ.length := (List.getElem?_eq_some_iff.mp hi).1
    have hi0 : (ρ.set i none)[i]? = some none := by rw [List.getElem?_set]; simp [hl]
    refine ⟨d :: ds, ρ2, hk, ⟨mo i hi0, take_none as _ i _ hi0 h, fr⟩, fun j hj => mo j ?_, fun vs A H σ F e r => ?_⟩
    · rw [List.getElem?_set]
      by_cases hij : i = j
      · subst hij; simp [hl]
      · simp [hij, hj]
    · obtain ⟨v, vr, rfl, r1, r2⟩ := r
      obtain ⟨v', f1, g, f2, ev, rfl, p, e1⟩ := EnvR.take ρ σ F i d hi e
      have hv : σ[i]? = some (some v) := r1
      rw [hv] at ev
      cases ev
      obtain ⟨Fa, Fr, p2, e2, pm⟩ := q vr A H σ (f1 ++ f2) e1 r2
      refine ⟨g ++ Fa, Fr, by rw [RpA]; exact ⟨v, vr, g, Fa, rfl, rfl, p, p2⟩, e2, ?_⟩
      rw [List.append_assoc]
      refine (pm.append_left g).trans ?_
      rw [← List.append_assoc]
      exact List.perm_append_comm.append_right f2
theorem back_env : ∀ (as : List Arg) (ds : List D) (ρ : Rho) (vs : List V) (A A0 : Addr → Prop) (H H0 : Hp) (σ : L2.St) (Fa Fr : List Addr), Free as ρ → ArgsR B A0 H0 σ as vs → (∃ ex vx, RpA B A H ds (vs ++ vx) Fa ∧ ds.length = vs.length + ex) → EnvR B A H ρ σ Fr → ∃ Fb, (Fb.Sublist Fa) ∧ ∃ F', F'.Perm (Fb ++ Fr) ∧ EnvR B A H (backL as ds ρ) σ F'
  | [], ds, ρ, vs, A, A0, H, H0, σ, Fa, Fr, _, r, p, e => ⟨[], List.nil_sublist _, Fr, .refl _, e⟩
  | .z d :: as, ds, ρ, vs, A, A0, H, H0, σ, Fa, Fr, fr, r, p, e => by
    obtain ⟨v, vr, rfl, r1, r2⟩ := r
    obtain ⟨ex, vx, p, hl⟩ := p
    cases ds with
    | nil => exfalso; simp at hl; omega
    | cons d' ds =>
      rw [List.cons_append, RpA] at p
      obtain ⟨v', vr', g, h, e1, rfl, p1, p2⟩ := p
      cases e1
      obtain ⟨Fb, s, F', pm, e'⟩ := back_env as ds ρ vr A A0 H H0 σ h Fr fr r2 ⟨ex, vx, p2, by simp at hl; omega⟩ e
      exact ⟨Fb, s.trans (List.sublist_append_right ..), F', pm, e'⟩
  | .s i :: as, ds, ρ, vs, A, A0, H, H0, σ, Fa, Fr, fr, r, p, e => by
    obtain ⟨v, vr, rfl, r1, r2⟩ := r
    obtain ⟨ex, vx, p, hl⟩ := p
    cases ds with
    | nil => exfalso; simp at hl; omega
    | cons d' ds =>
      rw [List.cons_append, RpA] at p
      obtain ⟨v', vr', g, h, e1, rfl, p1, p2⟩ := p
      cases e1
      obtain ⟨fr1, fr2, fr3⟩ := fr
      obtain ⟨g1, g2, rfl, e1⟩ := EnvR.put ρ σ Fr i d' v g (List.getElem?_eq_some_iff.mp fr1).1 fr1 e p1
      have hv : σ[i]? = some (some v) := r1
      rw [set_same hv] at e1
      obtain ⟨Fb, s, F', pm, e'⟩ := back_env as ds (ρ.set i (some d')) vr A A0 H H0 σ h (g1 ++ g ++ g2) (fr2 ρ fr3 (some d')) r2 ⟨ex, vx, p2, by simp at hl; omega⟩ e1
      refine ⟨g ++ Fb, List.Sublist.append_left s g, F', pm.trans ?_, e'⟩
      have h1 : (Fb ++ (g1 ++ g ++ g2)).Perm (Fb ++ (g ++ (g1 ++ g2))) := by
        refine List.Perm.append_left Fb ?_
        rw [← List.append_assoc]
        exact List.perm_append_comm.append_right g2
      refine h1.trans ?_
      rw [← List.append_assoc]
      exact List.perm_append_comm.append_right (g1 ++ g2)
/-- the arguments behind a call, the caller's slots -/
theorem after_call {Fa Fr Fa' : List Addr} {as : List Arg} {ds : List D} {vs vx : List V} {ex : Nat} {ρ2 : Rho} (e : Env B A H pr σ ρ F) (pm : (Fa ++ Fr).Perm F) (er : EnvR B A H ρ2 σ Fr) (fr : Free as ρ2) (ar : ArgsR B A H σ as vs) (s : Step A Fa H A' Fa' H') (p : RpA B A' H' ds (vs ++ vx) Fa') (hl : ds.length = vs.length + ex) (nd : (f ++ Fa').Nodup) (al : ∀ a, A' a → H' a ≠ none) (src : ∀ a ∈ f, a ∈ Fa ∨ H a = none) :
    ∃ F', Step A F H A' F' H' ∧ Env B A' H' pr σ (backL as ds ρ2) F' ∧ (f ++ F').Nodup ∧ ∀ a ∈ f, a ∈ F ∨ H a = none := by
  have nF : (Fa ++ Fr).Nodup := pm.nodup_iff.mpr e.nd
  have n1 := List.nodup_append.mp nF
  have fa : ∀ a ∈ Fa, A a := fun a ha => e.fa a (pm.subset (List.mem_append_left _ ha))
  have frA : ∀ a ∈ Fr, A a := fun a ha => e.fa a (pm.subset (List.mem_append_right _ ha))
  have dis : ∀ a ∈ Fr, a ∉ Fa := fun a ha hb => n1.2.2 a hb a ha rfl
  have er' : EnvR B A' H' ρ2 σ Fr := EnvR.stay ⟨s.keep, fa, s.ao, s.ak⟩ _ _ _ dis er
  obtain ⟨Fb, sb, F', pm', e'⟩ := back_env as ds ρ2 vs A' A H' H σ Fa' Fr fr ar ⟨ex, vx, p, hl⟩ er'
  have n2 := List.nodup_append.mp nd
  have nb : (f ++ (Fb ++ Fr)).Nodup := by
    rw [← List.append_assoc]
    refine List.nodup_append.mpr ⟨nd.sublist (List.Sublist.append_left sb f), n1.2.1, fun a ha b hb z => ?_⟩
    subst z
    have : a ∈ Fa ∨ H a = none := by
      rcases List.mem_append.mp ha with ha | ha
      · exact src a ha
      · exact s.fo a (sb.subset ha)
    rcases this with z | z
    · exact dis a hb z
    · exact e.al a (frA a hb) z
  refine ⟨F', ⟨s.keep.mono fun m hm => pm.subset (List.mem_append_left _ hm), fun a ha => ?_, s.ao, fun a ha n => s.ak a ha fun z => n (pm.subset (List.mem_append_left _ z))⟩, ⟨e', ?_, al, e.pr⟩, ?_, fun a ha => (src a ha).imp (fun z => pm.subset (List.mem_append_left _ z)) id⟩
  · rcases List.mem_append.mp (pm'.subset ha) with z | z
    · exact (s.fo a (sb.subset z)).imp (fun z => pm.subset (List.mem_append_left _ z)) id
    · exact .inl (pm.subset (List.mem_append_right _ z))
  · exact pm'.nodup_iff.mpr (List.nodup_append.mp nb).2.1
  · exact (pm'.append_left f).nodup_iff.mpr nb
theorem RpA.app : ∀ (ds es : List D) (vs us : List V) (f g : List Addr), RpA B A H ds vs f → RpA B A H es us g → RpA B A H (ds ++ es) (vs ++ us) (f ++ g)
  | [], es, _, us, _, g, p, q => by rw [RpA] at p; obtain ⟨rfl, rfl⟩ := p; simpa using q
  | d :: ds, es, _, us, _, g, p, q => by
    rw [RpA] at p
    obtain ⟨v, vr, f1, f2, rfl, rfl, p1, p2⟩ := p
    rw [List.cons_append, RpA]
    exact ⟨v, vr ++ us, f1, f2 ++ g, rfl, by simp, p1, RpA.app ds es vr us f2 g p2 q⟩
theorem lift_call {s : DSp} {dfl : List D} {dvs : List V} {as : List Arg} {vs : List V} {Qd : QD} {Q : VK} (hd : ∀ A H, RpA B A H dfl dvs []) (e : Env B A H pr σ ρ F) (ar : ArgsR B A H σ as vs) (h : callK s dfl as ρ Qd Xd) (hq : ∀ d ρ', Qd d ρ' → ∀ A' F' H' v f, Out B A F H pr σ A' F' H' ρ' v d f → Q v H') (hx : ExOk B pr W A F H Xd) : spOf B s (vs ++ dvs) H Q (WE W σ) := by
  obtain ⟨ds, ρ2, h, fr, _, q⟩ := take_free (B := B) as ρ _ h
  obtain ⟨Fa, Fr, p, er, pm⟩ := q vs A H σ F e.r ar
  have n1 := List.nodup_append.mp (pm.nodup_iff.mpr e.nd)
  refine ⟨A, Fa, ds ++ dfl, _, _, ?_, n1.1, e.al, h, fun r ds' hr A' F' H' v f st p' rv nd al src => ?_, fun x ds' hr A' F' H' cls dd st p' nd al xr => ?_⟩
  · have := RpA.app _ _ _ _ _ _ p (hd A H)
    simpa using this
  · have hl := RpA.len _ _ _ p'
    obtain ⟨F2, s2, e2, n2, src2⟩ := after_call (ex := dvs.length) (vx := dvs) e pm er fr ar st p' (by rw [← hl, List.length_append]) nd al src
    exact hq r _ hr A' F2 H' v f ⟨s2, e2, rv, n2, src2⟩
  · have hl := RpA.len _ _ _ p'
    obtain ⟨F2, s2, e2, n2, src2⟩ := after_call (f := []) (ex := dvs.length) (vx := dvs) e pm er fr ar st p' (by rw [← hl, List.length_append]) (by simpa using nd) al (by simp)
    exact hx x _ hr σ A' F2 H' cls dd s2 e2 xr
theorem ArgsR.stay (e : Env B A H pr σ ρ F) (s : Step A F H A' F' H') : ∀ (as : List Arg) (vs : List V), ArgsR B A H σ as vs → ArgsR B A' H' σ as vs
  | [], vs, h => h
  | a :: as, vs, ⟨v, vr, e1, r, q⟩ => ⟨v, vr, e1, (match a, r with
    | .z d, r => Rp.stay (s.stays e) _ _ _ (by simp) r
    | .s i, r => r), ArgsR.stay e s as vr q⟩
end
section
variable {B : Bs} {X : Cx} {pr : Nat → Option V} {W : WX} {CX : CXT} {k : Nat} {x c m : Str} {ps : List Str} {dvs : List V} {dfl : List D} {s : DSp} {p pos apos : Pos} {e o : Expr} {es : List Expr} {os : List Opd} {oo : Opd}
theorem lift_callF {σ : L2.St} {H : Hp} {Q : VK} (hd : ∀ A H, RpA B A H dfl dvs []) (h : liftE B pr W (wCall s dfl os) σ H Q) : tCallG (spOf B s) dvs W (tOpds B pr W os) σ H Q := by
  obtain ⟨A, F, ρ, Qd, Xd, e, h, hq, hx⟩ := h
  exact lift_args os e h hx fun as ρ' h' A' F' H' vs st e' ar => lift_call hd e' ar h' (fun d ρ2 hd2 A2 F2 H2 v f o => hq d ρ2 hd2 A2 F2 H2 v f (Out.seq e st o)) (hx.shift e st)
theorem de_call (O : OkF X.prog X.w X.K X.mg X.base CX k x ps dvs (spOf B s)) (hd : ∀ A H, RpA B A H dfl dvs []) (hr : Room k X.A) (hx : ∀ σ, PassesAt CX X σ (WE W σ)) (ha : DOs B X pr W (e :: es) os) (hg : Gl X x := by rfl)
    (hdb : (x == ("__debug__" : Str)) = false := by decide) (he : starEach (e :: es) X.env = (false, eval e X.env) :: starEach es X.env := by rfl) (hpl : (backTo pos (starEach es X.env)).any (·.1) = false := by rfl) :
    DE B X pr W (.Call (.Name x p) (e :: es) [] pos) (wCall s dfl os) := peW (pe_callF O hr hx ha hg hdb he hpl) fun _ _ _ h => lift_callF hd h
theorem lookup_zip_none {ns : List Str} {vs : List V} {m : Str} (h : ns.contains m = false) : (ns.zip vs).lookup m = none := by
  induction ns generalizing vs with
  | nil => rfl
  | cons n ns ih =>
    rw [List.contains_cons, Bool.or_eq_false_iff] at h
    cases vs with
    | nil => rfl
    | cons v vs => rw [List.zip_cons_cons, List.lookup_cons, h.1]; exact ih h.2
theorem isIns_pk {A : Addr → Prop} {H : Hp} {d : D} {v : V} {k : Prop} (h : isIns c m d k) (p : Pk B A H d v) : k ∧ ∃ a dx fs, v = .ref a ∧ H a = some (.ins (He.ga B.K c) dx fs) ∧ fs.lookup m = none := by
  cases d with
  | ins o c' ns ds =>
    obtain ⟨rfl, h1, h2⟩ := h
    obtain ⟨a, dx, vs, g, e, q, ql, r⟩ := p
    exact ⟨h2, a, dx, _, e, q, lookup_zip_none h1⟩
  | _ => exact h.elim
theorem lift_meth {σ : L2.St} {H : Hp} {Q : VK} (hd : ∀ A H, RpA B A H dfl dvs []) (h : liftE B pr W (wMeth c m s dfl oo os) σ H Q) : tMethG (He.ga B.K c) m (spOf B s) dvs W (tOpd B pr W oo) (tOpds B pr W os) σ H Q := by
  obtain ⟨A, F, ρ, Qd, Xd, e, h, hq, hx⟩ := h
  cases oo with
  | w w =>
    refine ⟨A, F, ρ, _, Xd, e, h, fun d ρ1 h1 A1 F1 H1 v f1 o1 => ?_, hx⟩
    obtain ⟨h1, a, dx, fs, ev, ea, el⟩ := isIns_pk h1 o1.val.pk
    cases mf : d.mayFreeze with
    | false => rw [mf] at h1; exact h1.elim
    | true =>
      rw [mf] at h1
      have o2 := Out.freeze e o1 mf
      refine ⟨a, dx, fs, ev, ea, el, lift_args os o2.env h1 (hx.shift e o2.step) fun as ρ' h' A' F' H' vs st e' ar => ?_⟩
      have st2 := o2.step.trans e.al e.fa st
      exact lift_call (vs := v :: vs) (as := .z d.freeze :: as) hd e' ⟨v, vs, rfl, Rp.stay (st.stays o2.env) _ _ _ (by simp) o2.val, ar⟩ h' (fun d ρ2 hd2 A2 F2 H2 v f o => hq d ρ2 hd2 A2 F2 H2 v f (Out.seq e st2 o)) (hx.shift e st2)
  | v i =>
    obtain ⟨d, hi, h⟩ := sl_iff.mp h
    obtain ⟨v, g, ev, p⟩ := e.at_ hi
    obtain ⟨h, a, dx, fs, e2, ea, el⟩ := isIns_pk h p.pk
    refine ⟨v, ev, a, dx, fs, e2, ea, el, lift_args os e h hx fun as ρ' h' A' F' H' vs st e' ar => ?_⟩
    exact lift_call (vs := v :: vs) (as := .s i :: as) hd e' ⟨v, vs, rfl, ev, ar⟩ h' (fun d ρ2 hd2 A2 F2 H2 v f o => hq d ρ2 hd2 A2 F2 H2 v f (Out.seq e st o)) (hx.shift e st)
theorem de_meth {pl : Sem Bool} (O : OkM X.prog X.w X.K X.mg X.base CX k c m ps dvs (spOf B s)) (hd : ∀ A H, RpA B A H dfl dvs []) (hr : Room k X.A) (hx : ∀ σ, PassesAt CX X σ (WE W σ)) (he : DO B X pr W o oo) (ha : DOs B X pr W (e :: es) os) (hK : X.K = B.K := by rfl)
    (hst : starEach (e :: es) X.env = (false, eval e X.env) :: starEach es X.env := by rfl) (hpl : (backTo pos (starEach es X.env)).any (·.1) = false := by rfl)
    (ht : eval (.Call (.Attribute o m apos) (e :: es) [] pos) X.env = (do
      let ov ← eval o X.env
      standAt apos.atName
      let (f, first) ← holding [ov] (getMethod ov m pl)
      callWith pos f first (backTo pos (starEach (e :: es) X.env)) (backToKw pos (keywordEach [] X.env))) := by rfl) :
    DE B X pr W (.Call (.Attribute o m apos) (e :: es) [] pos) (wMeth c m s dfl oo os) := peW (pe_methF O hr hx he ha hst hpl ht) fun _ _ _ h => by rw [hK]; exact lift_meth hd h
theorem lift_make {σ : L2.St} {H : Hp} {Q : VK} (hd : ∀ A H, RpA B A H dfl dvs []) (h : liftE B pr W (wMake c s dfl os) σ H Q) : tMakeG (He.ga B.K c) (spOf B s) dvs W (tOpds B pr W os) σ H Q := by
  obtain ⟨A, F, ρ, Qd, Xd, e, h, hq, hx⟩ := h
  refine lift_args os e h hx fun as ρ1 h1 A1 F1 H1 vs st e1 ar => fun x dx hxn hdn hne => ?_
  obtain ⟨ds, ρ2, h2, fr, _, q⟩ := take_free (B := B) as ρ1 _ h1
  -- the new instance
  have k1 : Keep [] H1 (upd H1 dx (.own x)) := Keep.new hdn
  have k2 : Keep [] H1 (upd (upd H1 dx (.own x)) x (.ins (He.ga B.K c) dx [])) := k1.trans (Keep.new (by rw [upd_ne (Ne.symm hne)]; exact hxn))
  have gr : Grow A1 H1 (More A1 x) (upd (upd H1 dx (.own x)) x (.ins (He.ga B.K c) dx [])) [x] := Grow.own k2 hxn
  have e2 : Env B (More A1 x) (upd (upd H1 dx (.own x)) x (.ins (He.ga B.K c) dx [])) pr σ ρ1 F1 := e1.grow gr fun a ha => by simp at ha; subst ha; rw [upd_same]; simp
  have ar2 : ArgsR B (More A1 x) (upd (upd H1 dx (.own x)) x (.ins (He.ga B.K c) dx [])) σ as vs := by
    refine ArgsR.stay e1 (F' := F1) ⟨⟨fun b o _ h => k2.at_ b o (by simp) h, k2.imm⟩, fun a h => .inl h, fun a h => (gr.ao a h).imp id (gr.nw a), fun a h _ => gr.ak a h⟩ as vs ar
  obtain ⟨Fa, Fr, pa, er, pm⟩ := q vs _ _ σ F1 e2.r ar2
  generalize hH2 : upd (upd H1 dx (.own x)) x (.ins (He.ga B.K c) dx []) = H2 at *
  have hx2 : H2 x = some (.ins (He.ga B.K c) dx []) := by rw [← hH2, upd_same]
  have hxF : x ∉ F1 := fun z => e1.al x (e1.fa x z) hxn
  have nF : (Fa ++ Fr).Nodup := pm.nodup_iff.mpr e1.nd
  have rx : Rp B (More A1 x) H2 (.ins true c [] []) (.ref x) [x] := by
    rw [Rp]
    exact ⟨x, dx, [], [], rfl, by rw [RpA]; exact ⟨rfl, rfl⟩, hx2, rfl, .inr rfl, rfl⟩
  have pm2 : ((x :: Fa) ++ Fr).Perm (x :: F1) := pm.cons x
  have ndx : (x :: Fa).Nodup := List.nodup_cons.mpr ⟨fun z => hxF (pm.subset (List.mem_append_left _ z)), (List.nodup_append.mp nF).1⟩
  refine ⟨More A1 x, x :: Fa, .ins true c [] [] :: (ds ++ dfl), _, _, ?_, ndx, e2.al, h2, fun r ds' hr A' F' H' v f st' p' rv nd al src => ?_, fun z ds' hr A' F' H' cls dd st' p' nd al xr => ?_⟩
  · rw [RpA]
    have := RpA.app _ _ _ _ _ _ pa (hd (More A1 x) H2)
    exact ⟨_, _, [x], Fa, rfl, rfl, rx, by simpa using this⟩
  · cases r with
    | non =>
      rw [Rp] at rv
      obtain ⟨rfl, rfl⟩ := rv
      cases ds' with
      | nil => exact hr.elim
      | cons d ds'' =>
        refine ⟨rfl, ?_⟩
        rw [RpA] at p'
        obtain ⟨v0, vr, g, hF, e0, rfl, p1, p2⟩ := p'
        cases e0
        have hl := RpA.len _ _ _ p2
        rw [List.nil_append] at nd
        have stx : Step (More A1 x) Fa H2 A' hF H' → True := fun _ => trivial
        -- the caller's slots behind it
        have nFr := (List.nodup_append.mp nF)
        have frA : ∀ a ∈ Fr, A1 a := fun a ha => e1.fa a (pm.subset (List.mem_append_right _ ha))
        have dis : ∀ a ∈ Fr, a ∉ x :: Fa := fun a ha hb => by
          rcases List.mem_cons.mp hb with z | hb
          · subst z; exact hxF (pm.subset (List.mem_append_right _ ha))
          · exact nFr.2.2 a hb a ha rfl
        have fax : ∀ a ∈ x :: Fa, More A1 x a := fun a ha => by
          rcases List.mem_cons.mp ha with z | ha
          · exact .inr z
          · exact .inl (e1.fa a (pm.subset (List.mem_append_left _ ha)))
        have er' : EnvR B A' H' ρ2 σ Fr := EnvR.stay ⟨st'.keep, fax, st'.ao, st'.ak⟩ _ _ _ dis er
        obtain ⟨Fb, sb, F'', pm', e'⟩ := back_env as ds'' ρ2 vs A' (More A1 x) H' H2 σ hF Fr fr ar2 ⟨dvs.length, dvs, p2, by rw [← hl, List.length_append]⟩ er'
        have kk : Keep F1 H1 H' := by
          refine ⟨fun b o n hb => ?_, fun b o i hb => st'.keep.imm b o i (k2.imm b o i hb)⟩
          refine st'.keep.at_ b o (fun z => ?_) (k2.at_ b o (by simp) hb)
          rcases List.mem_cons.mp z with z | z
          · subst z; rw [hxn] at hb; cases hb
          · exact n (pm.subset (List.mem_append_left _ z))
        have orig : ∀ a, (a ∈ x :: Fa ∨ H2 a = none) → a ∈ F1 ∨ H1 a = none := fun a h => by
          rcases h with h | h
          · rcases List.mem_cons.mp h with z | z
            · subst z; exact .inr hxn
            · exact .inl (pm.subset (List.mem_append_left _ z))
          · refine .inr ?_
            cases w : H1 a with
            | none => rfl
            | some u => rw [k2.at_ a u (by simp) w] at h; cases h
        have nb : (g ++ (Fb ++ Fr)).Nodup := by
          rw [← List.append_assoc]
          refine List.nodup_append.mpr ⟨nd.sublist (List.Sublist.append_left sb g), nFr.2.1, fun a ha b hb z => ?_⟩
          subst z
          rcases st'.fo a (by
            rcases List.mem_append.mp ha with z | z
            · exact List.mem_append_left _ z
            · exact List.mem_append_right _ (sb.subset z)) with z | z
          · exact dis a hb z
          · exact e2.al a (.inl (frA a hb)) z
        refine hq d _ hr A' F'' H' (.ref x) g (Out.seq e st ⟨⟨kk, fun a ha => ?_, fun a ha => ?_, fun a ha n => ?_⟩, ⟨e', pm'.nodup_iff.mpr (List.nodup_append.mp nb).2.1, al, e1.pr⟩, p1, (pm'.append_left g).nodup_iff.mpr nb, fun a ha => orig a (st'.fo a (List.mem_append_left _ ha))⟩)
        · rcases List.mem_append.mp (pm'.subset ha) with z | z
          · exact orig a (st'.fo a (List.mem_append_right _ (sb.subset z)))
          · exact .inl (pm.subset (List.mem_append_right _ z))
        · rcases st'.ao a ha with z | z
          · rcases z with z | z
            · exact .inl z
            · subst z; exact .inr hxn
          · refine (orig a (.inr z)).imp (e1.fa a) id
        · refine st'.ak a (.inl ha) fun z => ?_
          rcases List.mem_cons.mp z with z | z
          · subst z; exact e1.al _ ha hxn
          · exact n (pm.subset (List.mem_append_left _ z))
    | _ => exact hr.elim
  · cases ds' with
    | nil =>
      rw [RpA] at p'
      obtain ⟨z, _⟩ := p'
      cases z
    | cons d ds'' =>
      rw [RpA] at p'
      obtain ⟨v0, vr, g, hF, e0, rfl, p1, p2⟩ := p'
      cases e0
      have hl := RpA.len _ _ _ p2
      have nFr := (List.nodup_append.mp nF)
      have frA : ∀ a ∈ Fr, A1 a := fun a ha => e1.fa a (pm.subset (List.mem_append_right _ ha))
      have dis : ∀ a ∈ Fr, a ∉ x :: Fa := fun a ha hb => by
        rcases List.mem_cons.mp hb with z | hb
        · subst z; exact hxF (pm.subset (List.mem_append_right _ ha))
        · exact nFr.2.2 a hb a ha rfl
      have fax : ∀ a ∈ x :: Fa, More A1 x a := fun a ha => by
        rcases List.mem_cons.mp ha with z | ha
        · exact .inr z
        · exact .inl (e1.fa a (pm.subset (List.mem_append_left _ ha)))
      have er' : EnvR B A' H' ρ2 σ Fr := EnvR.stay ⟨st'.keep, fax, st'.ao, st'.ak⟩ _ _ _ dis er
      obtain ⟨Fb, sb, F'', pm', e'⟩ := back_env as ds'' ρ2 vs A' (More A1 x) H' H2 σ hF Fr fr ar2 ⟨dvs.length, dvs, p2, by rw [← hl, List.length_append]⟩ er'
      have orig : ∀ a, (a ∈ x :: Fa ∨ H2 a = none) → a ∈ F1 ∨ H1 a = none := fun a h => by
        rcases h with h | h
        · rcases List.mem_cons.mp h with z | z
          · subst z; exact .inr hxn
          · exact .inl (pm.subset (List.mem_append_left _ z))
        · refine .inr ?_
          cases w : H1 a with
          | none => rfl
          | some u => rw [k2.at_ a u (by simp) w] at h; cases h
      have nb : (Fb ++ Fr).Nodup := by
        refine List.nodup_append.mpr ⟨(nd.sublist (List.sublist_append_right ..)).sublist sb, nFr.2.1, fun a ha b hb z => ?_⟩
        subst z
        rcases st'.fo a (List.mem_append_right _ (sb.subset ha)) with z | z
        · exact dis a hb z
        · exact e2.al a (.inl (frA a hb)) z
      have kk : Keep F1 H1 H' := by
        refine ⟨fun b o n hb => ?_, fun b o i hb => st'.keep.imm b o i (k2.imm b o i hb)⟩
        refine st'.keep.at_ b o (fun z => ?_) (k2.at_ b o (by simp) hb)
        rcases List.mem_cons.mp z with z | z
        · subst z; rw [hxn] at hb; cases hb
        · exact n (pm.subset (List.mem_append_left _ z))
      refine hx.shift e st z _ hr σ A' F'' H' cls dd ⟨kk, fun a ha => ?_, fun a ha => ?_, fun a ha n => ?_⟩ ⟨e', pm'.nodup_iff.mpr nb, al, e1.pr⟩ xr
      · rcases List.mem_append.mp (pm'.subset ha) with z | z
        · exact orig a (st'.fo a (List.mem_append_right _ (sb.subset z)))
        · exact .inl (pm.subset (List.mem_append_right _ z))
      · rcases st'.ao a ha with z | z
        · rcases z with z | z
          · exact .inl z
          · subst z; exact .inr hxn
        · refine (orig a (.inr z)).imp (e1.fa a) id
      · refine st'.ak a (.inl ha) fun z => ?_
        rcases List.mem_cons.mp z with z | z
        · subst z; exact e1.al _ ha hxn
        · exact n (pm.subset (List.mem_append_left _ z))
theorem de_make (O : OkC X.prog X.w X.K X.mg X.base CX k c ps dvs (spOf B s)) (hd : ∀ A H, RpA B A H dfl dvs []) (hr : Room (k + 1) X.A) (hx : ∀ σ, PassesAt CX X σ (WE W σ)) (ha : DOs B X pr W (e :: es) os) (hK : X.K = B.K := by rfl) (hg : Gl X c := by rfl)
    (hdb : (c == ("__debug__" : Str)) = false := by decide) (he : starEach (e :: es) X.env = (false, eval e X.env) :: starEach es X.env := by rfl) (hpl : (backTo pos (starEach es X.env)).any (·.1) = false := by rfl) :
    DE B X pr W (.Call (.Name c p) (e :: es) [] pos) (wMake c s dfl os) := peW (pe_makeF O hr hx ha hg hdb he hpl) fun _ _ _ h => by rw [hK]; exact lift_make hd h
end
/-- the parameters behind the body: where ms tells so, what the slot holds, else what was given -/
def outP : List Bool → List D → Rho → (List D → Prop) → Prop
  | _, [], _, k => k []
  | true :: ms, _ :: ds, ρ, k => match ρ with
    | some d :: ρ => outP ms ds ρ fun r => k (d :: r)
    | _ => False
  | _ :: ms, d :: ds, ρ, k => outP ms ds ρ.tail fun r => k (d :: r)
  | [], d :: ds, ρ, k => outP [] ds ρ.tail fun r => k (d :: r)
def prOf (ms : List Bool) (vs : List V) : Nat → Option V := fun i => bif (ms[i]?).getD false then vs[i]? else none
def bodyE (ms : List Bool) (ds : List D) (Qd : D → List D → Prop) (Xd : DX → List D → Prop) : DEnds where
  nx := fun ρ => outP ms ds ρ (Qd .non)
  rt := fun d ρ => outP ms ds ρ (Qd d)
  xx := fun x ρ => outP ms ds ρ (Xd x)
section
variable {B : Bs} {A A' : Addr → Prop} {F F' : List Addr} {H H' : Hp}
theorem env_start : ∀ (ds : List D) (vs : List V) (F : List Addr) (n : Nat), RpA B A H ds vs F → EnvR B A H (ds.map some ++ List.replicate n none) (vs.map some ++ List.replicate n none) F
  | [], _, F, n, h => by
    rw [RpA] at h
    obtain ⟨rfl, rfl⟩ := h
    simp only [List.map_nil, List.nil_append]
    induction n with
    | zero => simp [EnvR]
    | succ n ih => rw [List.replicate_succ, List.replicate_succ, EnvR]; exact ⟨_, _, rfl, ih⟩
  | d :: ds, _, F, n, h => by
    rw [RpA] at h
    obtain ⟨v, vr, g, k, rfl, rfl, p, q⟩ := h
    rw [List.map_cons, List.map_cons, List.cons_append, List.cons_append, EnvR]
    exact ⟨v, _, g, k, rfl, rfl, p, env_start ds vr k n q⟩
theorem tail_getElem? {α : Type} (l : List α) (i : Nat) : l.tail[i]? = l[i + 1]? := by cases l <;> simp
theorem EnvR.tail {ρ : Rho} {σ : L2.St} {F : List Addr} (h : EnvR B A H ρ σ F) : ∃ F', F'.Sublist F ∧ EnvR B A H ρ.tail σ.tail F' := by
  cases ρ with
  | nil => rw [EnvR] at h; obtain ⟨rfl, rfl⟩ := h; exact ⟨[], .slnil, by simp [EnvR]⟩
  | cons x ρ =>
    cases x with
    | none => rw [EnvR] at h; obtain ⟨y, σr, rfl, h⟩ := h; exact ⟨F, .refl _, h⟩
    | some d => rw [EnvR] at h; obtain ⟨v, σr, g, k, rfl, rfl, p, h⟩ := h; exact ⟨k, List.sublist_append_right .., h⟩
theorem out_of : ∀ (ms : List Bool) (ds : List D) (vs : List V) (ρ : Rho) (σ : L2.St) (F0 F : List Addr) (k : List D → Prop), RpA B A H ds vs F0 → (∀ (i : Nat) (d : D), ds[i]? = some d → (ms[i]?).getD false = false → d.isFz = true) → (∀ a, (a ∈ F0 → False) → True) →
    (∀ d v, Rp B A H d v [] → Rp B A' H' d v []) → (∀ i v, prOf ms vs i = some v → σ[i]? = some (some v)) → EnvR B A' H' ρ σ F → outP ms ds ρ k → ∃ ds' F', k ds' ∧ F'.Sublist F ∧ RpA B A' H' ds' vs F'
  | _, [], vs, ρ, σ, F0, F, k, p, hf, _, hs, hp, e, h => by
    rw [RpA] at p
    obtain ⟨rfl, rfl⟩ := p
    have h2 : k [] := by cases ‹List Bool› <;> simpa [outP] using h
    exact ⟨[], [], h2, List.nil_sublist _, by rw [RpA]; exact ⟨rfl, rfl⟩⟩
  | true :: ms, d :: ds, vs, ρ, σ, F0, F, k, p, hf, _, hs, hp, e, h => by
    rw [RpA] at p
    obtain ⟨v, vr, g, g2, rfl, rfl, p1, p2⟩ := p
    cases ρ with
    | nil => exact h.elim
    | cons x ρ =>
      cases x with
      | none => exact h.elim
      | some d' =>
        rw [EnvR] at e
        obtain ⟨v', σr, f1, f2, rfl, rfl, q1, e⟩ := e
        have hv := hp 0 v rfl
        simp at hv
        subst hv
        obtain ⟨ds', F', hk, hsub, r⟩ := out_of ms ds vr ρ σr g2 f2 _ p2 (fun i d h1 h2 => hf (i + 1) d (by simpa using h1) (by simpa using h2)) (fun _ _ => trivial) hs (fun i u hu => by simpa using hp (i + 1) u (by simpa [prOf] using hu)) e h
        exact ⟨d' :: ds', f1 ++ F', hk, List.Sublist.append_left hsub f1, by rw [RpA]; exact ⟨v', vr, f1, F', rfl, rfl, q1, r⟩⟩
  | false :: ms, d :: ds, vs, ρ, σ, F0, F, k, p, hf, _, hs, hp, e, h => by
    rw [RpA] at p
    obtain ⟨v, vr, g, g2, rfl, rfl, p1, p2⟩ := p
    have hd := hf 0 d rfl rfl
    have hg := Rp.fz d v g hd p1
    subst hg
    obtain ⟨F1, s1, e1⟩ := EnvR.tail e
    obtain ⟨ds', F', hk, hsub, r⟩ := out_of ms ds vr ρ.tail σ.tail g2 F1 _ p2 (fun i d h1 h2 => hf (i + 1) d (by simpa using h1) (by simpa using h2)) (fun _ _ => trivial) hs (fun i u hu => by rw [tail_getElem?]; exact hp (i + 1) u (by simpa [prOf] using hu)) e1 h
    exact ⟨d :: ds', F', hk, hsub.trans s1, by rw [RpA]; exact ⟨v, vr, [], F', rfl, rfl, hs d v p1, r⟩⟩
  | [], d :: ds, vs, ρ, σ, F0, F, k, p, hf, _, hs, hp, e, h => by
    rw [RpA] at p
    obtain ⟨v, vr, g, g2, rfl, rfl, p1, p2⟩ := p
    have hd := hf 0 d rfl rfl
    have hg := Rp.fz d v g hd p1
    subst hg
    obtain ⟨F1, s1, e1⟩ := EnvR.tail e
    obtain ⟨ds', F', hk, hsub, r⟩ := out_of [] ds vr ρ.tail σ.tail g2 F1 _ p2 (fun i d h1 h2 => hf (i + 1) d (by simpa using h1) (by simp)) (fun _ _ => trivial) hs (fun i u hu => by simp [prOf] at hu) e1 h
    exact ⟨d :: ds', F', hk, hsub.trans s1, by rw [RpA]; exact ⟨v, vr, [], F', rfl, rfl, hs d v p1, r⟩⟩
/-- what is given as not to be changed is frozen -/
def fzP : List Bool → List D → Bool
  | _, [] => true
  | true :: ms, _ :: ds => fzP ms ds
  | _ :: ms, d :: ds => d.isFz && fzP ms ds
  | [], d :: ds => d.isFz && fzP [] ds
theorem fzP_at : ∀ (ms : List Bool) (ds : List D), fzP ms ds = true → ∀ (i : Nat) (d : D), ds[i]? = some d → (ms[i]?).getD false = false → d.isFz = true
  | _, [], _, i, d, h, _ => by simp at h
  | true :: ms, d0 :: ds, hf, 0, d, h, hm => by simp at hm
  | true :: ms, d0 :: ds, hf, i + 1, d, h, hm => fzP_at ms ds hf i d (by simpa using h) (by simpa using hm)
  | false :: ms, d0 :: ds, hf, 0, d, h, hm => by
    rw [fzP, Bool.and_eq_true] at hf
    · simp at h; subst h; exact hf.1
    · simp
  | false :: ms, d0 :: ds, hf, i + 1, d, h, hm => by
    rw [fzP, Bool.and_eq_true] at hf
    · exact fzP_at ms ds hf.2 i d (by simpa using h) (by simpa using hm)
    · simp
  | [], d0 :: ds, hf, 0, d, h, hm => by
    rw [fzP, Bool.and_eq_true] at hf
    simp at h; subst h; exact hf.1
  | [], d0 :: ds, hf, i + 1, d, h, hm => by
    rw [fzP, Bool.and_eq_true] at hf
    exact fzP_at [] ds hf.2 i d (by simpa using h) (by simp)
theorem body_of {s : DSp} {ms : List Bool} {ws : WS} {vs : List V} {Q : VK} {E : XK} {N : List Str} {np : Nat} (h : spOf B s vs H Q E)
    (hd : ∀ ds Qd Xd, s ds Qd Xd → ds.length = np ∧ fzP ms ds = true ∧ ws (bodyE ms ds Qd Xd) (ds.map some ++ List.replicate (N.length - np) none)) :
    liftS B (prOf ms vs) (fun c d _ H => E c d H) ws { nx := fun _ H' => Q .non H', rt := Q } (L2.start N vs) H := by
  obtain ⟨A, F, ds, Qd, Xd, p, nd, al, h, hq, hx⟩ := h
  obtain ⟨hn, hf, hw⟩ := hd ds Qd Xd h
  have hl := RpA.len _ _ _ p
  have hpr : ∀ i v, prOf ms vs i = some v → (L2.start N vs)[i]? = some (some v) := fun i v hi => by
    unfold prOf at hi
    cases hm : (ms[i]?).getD false with
    | false => rw [hm] at hi; cases hi
    | true =>
      rw [hm] at hi
      have hi : vs[i]? = some v := hi
      have hlt := (List.getElem?_eq_some_iff.mp hi).1
      unfold L2.start
      rw [List.getElem?_append_left (by simpa using hlt), List.getElem?_map, hi]
      rfl
  have env : Env B A H (prOf ms vs) (L2.start N vs) (ds.map some ++ List.replicate (N.length - np) none) F := ⟨by unfold L2.start; rw [hl, hn]; exact env_start ds vs F _ p, nd, al, hpr⟩
  have fz := fzP_at ms ds hf
  have fin : ∀ {A' : Addr → Prop} {F' : List Addr} {H' : Hp} {σ' : L2.St} {ρ' : Rho} {k : List D → Prop}, Step A F H A' F' H' → Env B A' H' (prOf ms vs) σ' ρ' F' → outP ms ds ρ' k → ∃ ds' F2, k ds' ∧ F2.Sublist F' ∧ RpA B A' H' ds' vs F2 :=
    fun st e ho => out_of ms ds vs _ _ F _ _ p fz (fun _ _ => trivial) (fun d v hp => Rp.stay (st.stays env) d v [] (by simp) hp) e.pr e.r ho
  have rt : ∀ d ρ', outP ms ds ρ' (Qd d) → ∀ σ' A' F' H' v f, Out B A F H (prOf ms vs) σ' A' F' H' ρ' v d f → Q v H' := fun d ρ' ho σ' A' F' H' v f o => by
    obtain ⟨ds', F2, hk, sub, r⟩ := fin o.step o.env ho
    exact hq d ds' hk A' F2 H' v f ⟨o.step.keep, fun a ha => o.step.fo a (sub.subset ha), o.step.ao, o.step.ak⟩ r o.val (o.nd.sublist (List.Sublist.append_left sub f)) o.env.al o.src
  refine ⟨A, F, _, _, env, hw, ⟨fun ρ' ho σ' A' F' H' st e => rt .non ρ' ho σ' A' F' H' .non [] ⟨st, e, rp_non, by simpa using e.nd, by simp⟩, fun _ h => h.elim, fun _ h => h.elim, rt, fun x ρ' ho σ' A' F' H' cls dd st e xr => ?_⟩⟩
  obtain ⟨ds', F2, hk, sub, r⟩ := fin st e ho
  exact hx x ds' hk A' F2 H' cls dd ⟨st.keep, fun a ha => st.fo a (sub.subset ha), st.ao, st.ak⟩ r (e.nd.sublist sub) e.al xr
end
end DL
namespace DL
open PySem PySem.Spec PyProof.Rows L2 PB
def OpD (B : Bs) (X : Cx) (f : Value → Value → Sem Value) (g : D → D → (D → Prop) → Prop) : Prop := ∃ r, OpR X f r ∧ Sim2 B r g
def CallD (B : Bs) (X : Cx) (f : Value) (g : List D → (D → Prop) → Prop) : Prop := ∃ r, CallR X f r ∧ SimN B r g
def IxD (B : Bs) (X : Cx) (g : D → D → (D → Prop) → Prop) : Prop := ∃ r, IxR X r ∧ Sim2 B r g
section
variable {B : Bs} {X : Cx} {pr : Nat → Option V} {W : WX} {a b c e o : Expr} {es : List Expr} {pos p : Pos} {oa ob oc : Opd} {os : List Opd} {wa wb wc : WD}
theorem de_binD {op : Operator} {g} (h : OpD B X (binaryOp op) g) (ha : DO B X pr W a oa) (hb : DO B X pr W b ob) : DE B X pr W (.BinOp a op b pos) (wOp g oa ob) := let ⟨_, h1, h2⟩ := h; de_bin h1 h2 ha hb
theorem de_cmpD {op : CmpOp} {g} (h : OpD B X (compareOp op) g) (ha : DO B X pr W a oa) (hb : DO B X pr W b ob) (hm : behindInMarks op b = false) : DE B X pr W (.Compare a [op] [b] pos) (wOp g oa ob) := let ⟨_, h1, h2⟩ := h; de_cmp h1 h2 ha hb hm
theorem dt_cmpD {op : CmpOp} {g} (h : OpD B X (compareOp op) g) (ha : DO B X pr W a oa) (hb : DO B X pr W b ob) (hm : behindInMarks op b = false) : DT B X pr W (.Compare a [op] [b] pos) (wT (wOp g oa ob)) := let ⟨_, h1, h2⟩ := h; dt_cmp h1 h2 ha hb hm
theorem de_ixD {g} (h : IxD B X g) (ha : DO B X pr W a oa) (hb : DO B X pr W b ob) (hp : PlainIx b) : DE B X pr W (.Subscript a b pos) (wOp g oa ob) := let ⟨_, h1, h2⟩ := h; de_ix h1 h2 ha hb hp
theorem de_callBD {id : String} {x : Str} {g} (h : CallD B X (.builtin id) g) (hg : Gl X x) (hm : X.mg x = none) (hv : bootBuiltins x = some (.builtin id)) (ha : DOs B X pr W (e :: es) os) (hn : x ≠ "__name__" := by decide) (hdb : (x == ("__debug__" : Str)) = false := by decide)
    (he : starEach (e :: es) X.env = (false, eval e X.env) :: starEach es X.env := by rfl) (hpl : (backTo pos (starEach es X.env)).any (·.1) = false := by rfl) : DE B X pr W (.Call (.Name x p) (e :: es) [] pos) (wCB g os) := let ⟨_, h1, h2⟩ := h; de_callB h1 h2 hg hm hv ha hn hdb he hpl
theorem de_callTyD {T : String} {x : Str} {g} (h : CallD B X (.type T) g) (hg : Gl X x) (hm : X.mg x = none) (hv : bootBuiltins x = some (.type T)) (ha : DOs B X pr W (e :: es) os) (hn : x ≠ "__name__" := by decide) (hdb : (x == ("__debug__" : Str)) = false := by decide)
    (he : starEach (e :: es) X.env = (false, eval e X.env) :: starEach es X.env := by rfl) (hpl : (backTo pos (starEach es X.env)).any (·.1) = false := by rfl) : DE B X pr W (.Call (.Name x p) (e :: es) [] pos) (wCB g os) := let ⟨_, h1, h2⟩ := h; de_callTy h1 h2 hg hm hv ha hn hdb he hpl
theorem OpD.or {f} {g g'} (h : OpD B X f g) (h' : OpD B X f g') : OpD B X f (fun a b Q => g a b Q ∨ g' a b Q) := by
  obtain ⟨r, h1, h2⟩ := h
  obtain ⟨r', h1', h2'⟩ := h'
  exact ⟨_, OpRor h1 h1', fun A H x y d1 d2 Q Qd al p1 p2 hg hq => hg.imp (fun hg => h2 A H x y d1 d2 Q Qd al p1 p2 hg hq) fun hg => h2' A H x y d1 d2 Q Qd al p1 p2 hg hq⟩
theorem OpD.imp {f} {g g'} (h : OpD B X f g) (hi : ∀ a b Q, g' a b Q → g a b Q) : OpD B X f g' := by
  obtain ⟨r, h1, h2⟩ := h
  exact ⟨r, h1, fun A H x y d1 d2 Q Qd al p1 p2 hg hq => h2 A H x y d1 d2 Q Qd al p1 p2 (hi _ _ _ hg) hq⟩
theorem IxD.or {g g'} (h : IxD B X g) (h' : IxD B X g') : IxD B X (fun a b Q => g a b Q ∨ g' a b Q) := by
  obtain ⟨r, h1, h2⟩ := h
  obtain ⟨r', h1', h2'⟩ := h'
  exact ⟨_, h1.or h1', fun A H x y d1 d2 Q Qd al p1 p2 hg hq => hg.imp (fun hg => h2 A H x y d1 d2 Q Qd al p1 p2 hg hq) fun hg => h2' A H x y d1 d2 Q Qd al p1 p2 hg hq⟩
theorem IxD.imp {g g'} (h : IxD B X g) (hi : ∀ a b Q, g' a b Q → g a b Q) : IxD B X g' := by
  obtain ⟨r, h1, h2⟩ := h
  exact ⟨r, h1, fun A H x y d1 d2 Q Qd al p1 p2 hg hq => h2 A H x y d1 d2 Q Qd al p1 p2 (hi _ _ _ hg) hq⟩
theorem CallD.or {f} {g g'} (h : CallD B X f g) (h' : CallD B X f g') : CallD B X f (fun a Q => g a Q ∨ g' a Q) := by
  obtain ⟨r, h1, h2⟩ := h
  obtain ⟨r', h1', h2'⟩ := h'
  exact ⟨_, CallRor h1 h1', fun A H xs ds Q Qd al p1 hg hq => hg.imp (fun hg => h2 A H xs ds Q Qd al p1 hg hq) fun hg => h2' A H xs ds Q Qd al p1 hg hq⟩
theorem CallD.imp {f} {g g'} (h : CallD B X f g) (hi : ∀ a Q, g' a Q → g a Q) : CallD B X f g' := by
  obtain ⟨r, h1, h2⟩ := h
  exact ⟨r, h1, fun A H xs ds Q Qd al p1 hg hq => h2 A H xs ds Q Qd al p1 (hi _ _ hg) hq⟩
end
def gII (C : Int → Int → Prop) (F : Int → Int → D) : D → D → (D → Prop) → Prop
  | .int i, .int j, Q => C i j ∧ Q (F i j)
  | _, _, _ => False
def gI (F : Int → Int → D) : D → D → (D → Prop) → Prop
  | .int i, .int j, Q => Q (F i j)
  | _, _, _ => False
def SV : D → V → Prop
  | .int i, v => v = .int i
  | .bl i, v => v = .bl i
  | .str i, v => v = .str i
  | .non, v => v = .non
  | _, _ => False
theorem SV.rp {B : Bs} {A : Addr → Prop} {H : Hp} : ∀ {d : D} {v : V}, SV d v → Rp B A H d v []
  | .int i, v, h => by cases h; exact rp_int
  | .bl i, v, h => by cases h; exact rp_bl
  | .str i, v, h => by cases h; exact rp_str
  | .non, v, h => by cases h; exact rp_non
section
variable {B : Bs} {X : Cx}
theorem opII {f} {C : Int → Int → Prop} {F : Int → Int → V} {G : Int → Int → D} (h : OpR X f (rI C F)) (hv : ∀ i j, SV (G i j) (F i j)) : OpD B X f (gII C G) := by
  refine ⟨_, h, fun A H x y d1 d2 Q Qd al p1 p2 hg hq => ?_⟩
  cases d1 <;> cases d2 <;> first | exact hg.elim | skip
  case int.int i j =>
    cases p1
    cases p2
    exact ⟨i, j, rfl, rfl, hg.1, hq _ hg.2 A H _ [] (Grow.same A H) (hv i j).rp⟩
theorem opI0 {f} {F : Int → Int → V} {G : Int → Int → D} (h : OpR X f (rI0 F)) (hv : ∀ i j, SV (G i j) (F i j)) : OpD B X f (gI G) := by
  refine ⟨_, h, fun A H x y d1 d2 Q Qd al p1 p2 hg hq => ?_⟩
  cases d1 <;> cases d2 <;> first | exact hg.elim | skip
  case int.int i j =>
    cases p1
    cases p2
    exact ⟨i, j, rfl, rfl, hq _ hg A H _ [] (Grow.same A H) (hv i j).rp⟩
theorem od_sub : OpD B X (binaryOp .Sub) (gI fun i j => .int (i - j)) := opI0 op_sub fun _ _ => rfl
theorem od_mul : OpD B X (binaryOp .Mult) (gII CMulW fun i j => .int (i * j)) := opII op_mulW fun _ _ => rfl
theorem od_pow : OpD B X (binaryOp .Pow) (gII CPow fun i j => .int (i ^ j.toNat)) := opII op_pow fun _ _ => rfl
theorem od_lt : OpD B X (compareOp .Lt) (gI fun i j => .bl (decide (i < j))) := opI0 op_lt fun _ _ => rfl
theorem od_gt : OpD B X (compareOp .Gt) (gI fun i j => .bl (decide (j < i))) := opI0 op_gt fun _ _ => rfl
theorem od_ge : OpD B X (compareOp .GtE) (gI fun i j => .bl (decide (j ≤ i))) := opI0 op_ge fun _ _ => rfl
end
def gAdd : D → D → (D → Prop) → Prop
  | .int i, .int j, Q => Q (.int (i + j))
  | .str a, .str b, Q => a.length + b.length ≤ 1000000 ∧ Q (.str (a ++ b))
  | .lst _ a, .lst _ b, Q => a.length + b.length ≤ 1000000 ∧ Q (.lst true (a ++ b))
  | .tup a, .tup b, Q => a.length + b.length ≤ 1000000 ∧ D.isFzA a = true ∧ D.isFzA b = true ∧ Q (.tup (a ++ b))
  | _, _, _ => False
section
variable {B : Bs} {X : Cx}
theorem RpA.grow {A A' : Addr → Prop} {H H' : Hp} {f : List Addr} {ds : List D} {vs : List V} (g : Grow A H A' H' f) (h : RpA B A H ds vs []) : RpA B A' H' ds vs [] := RpA.stay g.stays ds vs [] (by simp) h
theorem rp_newL {A : Addr → Prop} {H : Hp} {p : Addr} {ds : List D} {vs : List V} (hp : H p = none) (h : RpA B A H ds vs []) : Rp B (More A p) (upd H p (.lst vs)) (.lst true ds) (.ref p) [p] := by
  rw [Rp]
  exact ⟨p, vs, rfl, RpA.grow (Grow.own (Keep.new hp) hp) h, upd_same, .inr rfl, rfl⟩
theorem rp_newT {A : Addr → Prop} {H : Hp} {p : Addr} {ds : List D} {vs : List V} (hp : H p = none) (h : RpA B A H ds vs []) : Rp B A (upd H p (.tup vs)) (.tup ds) (.ref p) [] := by
  rw [Rp]
  exact ⟨p, vs, rfl, SqT.of upd_same, RpA.grow (Grow.tup (Keep.new hp)) h⟩
theorem od_add (hK : X.K = B.K := by rfl) : OpD B X (binaryOp .Add) gAdd := by
  have h1 : OpD B X (binaryOp .Add) (gI fun i j => .int (i + j)) := opI0 op_add fun _ _ => rfl
  have h2 : OpD B X (binaryOp .Add) (fun x y Q => match x, y with | .str a, .str b => a.length + b.length ≤ 1000000 ∧ Q (.str (a ++ b)) | _, _ => False) := by
    refine ⟨_, op_addS, fun A H x y d1 d2 Q Qd al p1 p2 hg hq => ?_⟩
    cases d1 <;> cases d2 <;> first | exact hg.elim | skip
    cases p1
    cases p2
    exact ⟨_, _, rfl, rfl, sz_le hg.1, hq _ hg.2 A H _ [] (Grow.same A H) rp_str⟩
  have h3 : OpD B X (binaryOp .Add) (fun x y Q => match x, y with | .lst _ a, .lst _ b => a.length + b.length ≤ 1000000 ∧ Q (.lst true (a ++ b)) | _, _ => False) := by
    refine ⟨_, op_cat, fun A H x y d1 d2 Q Qd al p1 p2 hg hq => ?_⟩
    cases d1 <;> cases d2 <;> first | exact hg.elim | skip
    obtain ⟨l, xs, rfl, e1, r1⟩ := p1
    obtain ⟨l2, ys, rfl, e2, r2⟩ := p2
    have l1 := RpA.len _ _ _ r1
    have l2' := RpA.len _ _ _ r2
    exact ⟨l, l2, xs, ys, rfl, rfl, e1, e2, sz_le (by have := hg.1; omega), fun p hp => hq _ hg.2 _ _ _ [p] (Grow.own (Keep.new hp) hp) (rp_newL hp (by simpa using RpA.app _ _ _ _ _ _ r1 r2))⟩
  have h4 : OpD B X (binaryOp .Add) (fun x y Q => match x, y with | .tup a, .tup b => a.length + b.length ≤ 1000000 ∧ D.isFzA a = true ∧ D.isFzA b = true ∧ Q (.tup (a ++ b)) | _, _ => False) := by
    refine ⟨_, op_catA, fun A H x y d1 d2 Q Qd al p1 p2 hg hq => ?_⟩
    cases d1 <;> cases d2 <;> first | exact hg.elim | skip
    obtain ⟨l, xs, g1, rfl, e1, r1⟩ := p1
    obtain ⟨l2, ys, g2, rfl, e2, r2⟩ := p2
    obtain ⟨hz, f1, f2, hg⟩ := hg
    have := RpA.fz _ _ _ f1 r1
    subst this
    have := RpA.fz _ _ _ f2 r2
    subst this
    have l1 := RpA.len _ _ _ r1
    have l2' := RpA.len _ _ _ r2
    rw [hK]
    refine ⟨l, l2, xs, ys, rfl, rfl, e1, e2, sz_le (by omega), fun hx => ?_, fun hx hy => ?_, fun hx hy p hp => hq _ hg _ _ _ [] (Grow.tup (Keep.new hp)) (rp_newT hp (by simpa using RpA.app _ _ _ _ _ _ r1 r2))⟩
    · subst hx
      rename_i t1 t2
      cases t1 with
      | nil => exact hq _ hg A H _ [] (Grow.same A H) (by rw [List.nil_append, Rp]; exact ⟨l2, ys, rfl, e2, r2⟩)
      | cons _ _ => simp at l1
    · subst hy
      rename_i t1 t2
      cases t2 with
      | nil => exact hq _ hg A H _ [] (Grow.same A H) (by rw [List.append_nil, Rp]; exact ⟨l, xs, rfl, e1, r1⟩)
      | cons _ _ => simp at l2'
  refine (h1.or (h2.or (h3.or h4))).imp fun a b Q h => ?_
  cases a <;> cases b <;> first | exact h.elim | exact .inl h | exact .inr (.inl h) | exact .inr (.inr (.inl h)) | exact .inr (.inr (.inr h))
end
mutual
def D.py : D → PyData
  | .bl b => .bool b
  | .int i => .int i
  | .str s => .str s
  | .tup ds => .tuple (D.pyA ds)
  | .lst _ ds => .list (D.pyA ds)
  | _ => .none
def D.pyA : List D → List PyData
  | [] => []
  | d :: ds => D.py d :: D.pyA ds
end
/-- what == may be asked of, to depth n -/
def D.eqOk : Nat → D → Bool
  | _, .non => true
  | _, .bl _ => true
  | _, .int _ => true
  | _, .str s => PyData.strOk s
  | n + 1, .tup ds => ds.all (D.eqOk n)
  | n + 1, .lst _ ds => ds.all (D.eqOk n)
  | _, _ => false
def D.eqv (d e : D) : Bool := PyData.eqv d.py e.py
theorem D.eqv_str (i j : Str) : D.eqv (.str i) (.str j) = decide (i = j) := by rw [Bool.eq_iff_iff]; simp [D.eqv, D.py, PyData.eqv]
section
variable {B : Bs} {A : Addr → Prop} {H : Hp}
theorem dp_kids {n : Nat} (ih : ∀ (d : D) (v : V) (f : List Addr), D.eqOk n d = true → Rp B A H d v f → Dp B.K H v d.py ∧ PyData.canLay0 d.py = true ∧ PyData.depth d.py ≤ n) : ∀ (ds : List D) (vs : List V) (f : List Addr), ds.all (D.eqOk n) = true → RpA B A H ds vs f → DpAll B.K H vs (D.pyA ds) ∧ PyData.canLayAll0 (D.pyA ds) = true ∧ PyData.depthAll (D.pyA ds) ≤ n
  | [], _, _, _, h => by rw [RpA] at h; obtain ⟨rfl, _⟩ := h; exact ⟨.nil, by simp [D.pyA, PyData.canLayAll0], by simp [D.pyA, PyData.depthAll]⟩
  | d :: ds, _, _, ok, h => by
    rw [RpA] at h
    obtain ⟨v, vr, g, k, rfl, rfl, p, q⟩ := h
    rw [List.all_cons, Bool.and_eq_true] at ok
    obtain ⟨a1, a2, a3⟩ := ih d v g ok.1 p
    obtain ⟨b1, b2, b3⟩ := dp_kids ih ds vr k ok.2 q
    refine ⟨.cons a1 b1, by simp [D.pyA, PyData.canLayAll0, a2, b2], ?_⟩
    rw [D.pyA, PyData.depthAll]
    exact Nat.max_le.mpr ⟨a3, b3⟩
theorem dp_of : ∀ (n : Nat) (d : D) (v : V) (f : List Addr), D.eqOk n d = true → Rp B A H d v f → Dp B.K H v d.py ∧ PyData.canLay0 d.py = true ∧ PyData.depth d.py ≤ n := by
  intro n
  induction n with
  | zero =>
    intro d v f ok h
    cases d <;> first | (exfalso; simp [D.eqOk] at ok; done) | skip
    · rw [Rp] at h; obtain ⟨rfl, _⟩ := h; exact ⟨.non, by simp [D.py, PyData.canLay0], by simp [D.py, PyData.depth]⟩
    · rw [Rp] at h; obtain ⟨rfl, _⟩ := h; exact ⟨.bl _, by simp [D.py, PyData.canLay0], by simp [D.py, PyData.depth]⟩
    · rw [Rp] at h; obtain ⟨rfl, _⟩ := h; exact ⟨.int _, by simp [D.py, PyData.canLay0], by simp [D.py, PyData.depth]⟩
    · rw [Rp] at h; obtain ⟨rfl, _⟩ := h; exact ⟨.str _, by simpa [D.py, PyData.canLay0, D.eqOk] using ok, by simp [D.py, PyData.depth]⟩
  | succ n ih =>
    intro d v f ok h
    cases d <;> first | (exfalso; simp [D.eqOk] at ok; done) | skip
    · rw [Rp] at h; obtain ⟨rfl, _⟩ := h; exact ⟨.non, by simp [D.py, PyData.canLay0], by simp [D.py, PyData.depth]⟩
    · rw [Rp] at h; obtain ⟨rfl, _⟩ := h; exact ⟨.bl _, by simp [D.py, PyData.canLay0], by simp [D.py, PyData.depth]⟩
    · rw [Rp] at h; obtain ⟨rfl, _⟩ := h; exact ⟨.int _, by simp [D.py, PyData.canLay0], by simp [D.py, PyData.depth]⟩
    · rw [Rp] at h; obtain ⟨rfl, _⟩ := h; exact ⟨.str _, by simpa [D.py, PyData.canLay0, D.eqOk] using ok, by simp [D.py, PyData.depth]⟩
    · rw [Rp] at h
      obtain ⟨a, vs, rfl, q, r⟩ := h
      obtain ⟨k1, k2, k3⟩ := dp_kids ih _ vs _ ok r
      exact ⟨by rw [D.py]; exact .tup q k1, by rw [D.py, PyData.canLay0]; exact k2, by rw [D.py, PyData.depth]; omega⟩
    · rw [Rp] at h
      obtain ⟨a, vs, rfl, r, q⟩ := h
      obtain ⟨k1, k2, k3⟩ := dp_kids ih _ vs _ ok r
      refine ⟨?_, by rw [D.py, PyData.canLay0]; exact k2, by rw [D.py, PyData.depth]; omega⟩
      rw [D.py]
      rename_i o ds
      cases o with
      | true => exact .lst (SqL.of q.1) k1
      | false => exact .lst (SqL.of q.1) k1
theorem dp_pk {d : D} {v : V} (ok : D.eqOk 10 d = true) (h : Pk B A H d v) : Dp B.K H v d.py ∧ SeqAt.shaped d.py = true := by
  have key : Dp B.K H v d.py ∧ PyData.canLay0 d.py = true ∧ PyData.depth d.py ≤ 10 := by
    cases d <;> first | (exfalso; simp [D.eqOk] at ok; done) | skip
    · cases h; exact dp_of (A := A) 10 .non _ [] ok rp_non
    · cases h; exact dp_of (A := A) 10 (.bl _) _ [] ok rp_bl
    · cases h; exact dp_of (A := A) 10 (.int _) _ [] ok rp_int
    · cases h; exact dp_of (A := A) 10 (.str _) _ [] ok rp_str
    · obtain ⟨a, vs, g, rfl, q, r⟩ := h
      exact dp_of 10 (.tup _) _ g ok (by rw [Rp]; exact ⟨a, vs, rfl, q, r⟩)
    · obtain ⟨a, vs, rfl, q, r⟩ := h
      obtain ⟨k1, k2, k3⟩ := dp_kids (dp_of 9) _ vs _ ok r
      exact ⟨by rw [D.py]; exact .lst (SqL.of q) k1, by rw [D.py, PyData.canLay0]; exact k2, by rw [D.py, PyData.depth]; omega⟩
  refine ⟨key.1, ?_⟩
  unfold SeqAt.shaped
  rw [key.2.1, Bool.true_and, decide_eq_true_eq]
  have := key.2.2
  omega
end
def gEqB (k : Bool → D) : D → D → (D → Prop) → Prop
  | .int i, .int j, Q => Q (k (decide (i = j)))
  | .str i, .str j, Q => Q (k (decide (i = j)))
  | .bl i, .bl j, Q => Q (k (decide (i = j)))
  | .non, .non, Q => Q (k true)
  | .non, .int _, Q => Q (k false)
  | .int _, .non, Q => Q (k false)
  | .non, .str _, Q => Q (k false)
  | .str _, .non, Q => Q (k false)
  | .non, .bl _, Q => Q (k false)
  | .bl _, .non, Q => Q (k false)
  | .int _, .str _, Q => Q (k false)
  | .str _, .int _, Q => Q (k false)
  | .bl _, .str _, Q => Q (k false)
  | .str _, .bl _, Q => Q (k false)
  | d, e, Q => cond (D.eqOk 10 d && D.eqOk 10 e) (Q (k (D.eqv d e))) False
def gEq := gEqB fun b => .bl b
def gNe := gEqB fun b => .bl (!b)
section
variable {B : Bs} {X : Cx}
theorem eqB {f} {r1 r2 : R2} {k : Bool → Bool} (h1 : OpR X f r1) (h2 : OpR X f r2) (e1 : ∀ x y H (Q : VK), scal x y = true → Q (.bl (k (decide (x = y)))) H → r1 x y H Q) (e2 : ∀ x y H (Q : VK) d e, Dp B.K H x d → Dp B.K H y e → SeqAt.shaped d = true → SeqAt.shaped e = true → Q (.bl (k (PyData.eqv d e))) H → r2 x y H Q) : OpD B X f (gEqB fun b => .bl (k b)) := by
  refine ⟨_, OpRor h1 h2, fun A H x y d1 d2 Q Qd al p1 p2 hg hq => ?_⟩
  have out : ∀ b, Qd (.bl (k b)) → Q (.bl (k b)) H := fun b h => hq _ h A H _ [] (Grow.same A H) rp_bl
  have deep : cond (D.eqOk 10 d1 && D.eqOk 10 d2) (Qd (.bl (k (D.eqv d1 d2)))) False → r1 x y H Q ∨ r2 x y H Q := fun h => by
    cases m : (D.eqOk 10 d1 && D.eqOk 10 d2) with
    | false => rw [m] at h; exact h.elim
    | true =>
      rw [m] at h
      rw [Bool.and_eq_true] at m
      obtain ⟨a1, a2⟩ := dp_pk m.1 p1
      obtain ⟨b1, b2⟩ := dp_pk m.2 p2
      exact .inr (e2 _ _ _ _ _ _ a1 b1 a2 b2 (out _ h))
  have sc : ∀ b, scal x y = true → k (decide (x = y)) = k b → Qd (.bl (k b)) → r1 x y H Q ∨ r2 x y H Q := fun b h1 h2 h3 => .inl (e1 _ _ _ _ h1 (by rw [h2]; exact out _ h3))
  clear e1 e2 out h1 h2
  cases d1 with
  | int i =>
    cases p1
    cases d2 with
    | int j => cases p2; exact sc _ rfl (by congr 1; simp) hg
    | non => cases p2; exact sc false rfl rfl hg
    | str j => cases p2; exact sc false rfl rfl hg
    | _ => exact deep hg
  | str i =>
    cases p1
    cases d2 with
    | str j => cases p2; exact sc _ rfl (by congr 1; simp) hg
    | non => cases p2; exact sc false rfl rfl hg
    | int j => cases p2; exact sc false rfl rfl hg
    | bl j => cases p2; exact sc false rfl rfl hg
    | _ => exact deep hg
  | bl i =>
    cases p1
    cases d2 with
    | bl j => cases p2; exact sc _ rfl (by congr 1; simp) hg
    | non => cases p2; exact sc false rfl rfl hg
    | str j => cases p2; exact sc false rfl rfl hg
    | _ => exact deep hg
  | non =>
    cases p1
    cases d2 with
    | non => cases p2; exact sc true rfl rfl hg
    | bl j => cases p2; exact sc false rfl rfl hg
    | int j => cases p2; exact sc false rfl rfl hg
    | str j => cases p2; exact sc false rfl rfl hg
    | _ => exact deep hg
  | _ => exact deep hg
theorem od_eq (hu : X.A.units + 64 < cLine) (hK : X.K = B.K := by rfl) : OpD B X (compareOp .Eq) gEq :=
  eqB (k := fun b => b) op_eq (op_eqD hu) (fun _ _ _ _ a b => ⟨a, b⟩) (fun x y H Q d e a b c d' q => ⟨d, e, by rw [hK]; exact a, by rw [hK]; exact b, c, d', q⟩)
theorem od_ne (hu : X.A.units + 64 < cLine) (hK : X.K = B.K := by rfl) : OpD B X (compareOp .NotEq) gNe :=
  eqB (k := fun b => !b) op_ne (op_neD hu) (fun _ _ _ _ a b => ⟨a, b⟩) (fun x y H Q d e a b c d' q => ⟨d, e, by rw [hK]; exact a, by rw [hK]; exact b, c, d', q⟩)
end
def D.isNon : D → Bool
  | .non => true
  | _ => false
def gIsN (k : Bool → D) : D → D → (D → Prop) → Prop := fun d e Q => match e with
  | .non => cond d.mayFreeze (Q (k d.isNon)) False
  | _ => False
section
variable {B : Bs} {X : Cx}
theorem pk_non {A : Addr → Prop} {H : Hp} {d : D} {x : V} (m : d.mayFreeze = true) (h : Pk B A H d x) : decide (x = .non) = d.isNon := by
  cases d <;> first
    | (cases h; rfl)
    | (cases m; done)
    | (obtain ⟨_, _, _, rfl, _⟩ := h; rfl)
    | (obtain ⟨_, _, rfl, _⟩ := h; rfl)
    | (obtain ⟨_, _, _, _, rfl, _⟩ := h; rfl)
    | (cases h; simp [D.isNon])
theorem od_notN : OpD B X (compareOp .IsNot) (gIsN fun b => .bl (!b)) := by
  refine ⟨_, op_notN1, fun A H x y d1 d2 Q Qd al p1 p2 hg hq => ?_⟩
  cases d2 <;> first | exact hg.elim | skip
  cases p2
  cases m : d1.mayFreeze with
  | false => simp [gIsN, m] at hg
  | true =>
    simp only [gIsN, m, cond_true] at hg
    refine ⟨rfl, ?_⟩
    rw [pk_non m p1]
    exact hq _ hg A H _ [] (Grow.same A H) rp_bl
def gIx : D → D → (D → Prop) → Prop
  | .lst _ ds, .int i, Q => match atI ds i with
    | some d => Q d
    | none => False
  | .tup ds, .int i, Q => match atI ds i with
    | some d => cond d.isFz (Q d) False
    | none => False
  | .str z, .int i, Q => match atI z.cps.toList i with
    | some c => z.length ≤ 1000000 ∧ Q (.str ⟨#[c]⟩)
    | none => False
  | _, _, _ => False
theorem RpA.get {A : Addr → Prop} {H : Hp} : ∀ (ds : List D) (vs : List V) (f : List Addr) (j : Nat) (d : D), RpA B A H ds vs f → ds[j]? = some d → ∃ v g, vs[j]? = some v ∧ Rp B A H d v g ∧ ∀ a ∈ g, a ∈ f
  | [], _, _, _, _, _, e => by simp at e
  | d0 :: ds, _, f, j, d, h, e => by
    rw [RpA] at h
    obtain ⟨v, vr, g, k, rfl, rfl, p, q⟩ := h
    cases j with
    | zero => simp at e; subst e; exact ⟨v, g, by simp, p, fun a ha => List.mem_append_left _ ha⟩
    | succ j =>
      obtain ⟨v', g', e1, p1, s1⟩ := RpA.get ds vr k j d q (by simpa using e)
      exact ⟨v', g', by simpa using e1, p1, fun a ha => List.mem_append_right _ (s1 a ha)⟩
theorem RpA.atI {A : Addr → Prop} {H : Hp} {ds : List D} {vs : List V} {f : List Addr} {i : Int} {d : D} (h : RpA B A H ds vs f) (e : L2.atI ds i = some d) : ∃ v g, L2.atI vs i = some v ∧ Rp B A H d v g ∧ ∀ a ∈ g, a ∈ f := by
  unfold L2.atI at e ⊢
  have hl := RpA.len _ _ _ h
  rw [hl]
  cases q : ixN ds.length i with
  | none => rw [q] at e; cases e
  | some j =>
    rw [q] at e
    exact RpA.get ds vs f j d h e
theorem ixd_seq (hK : X.K = B.K := by rfl) : IxD B X gIx := by
  refine ⟨_, ix_seq, fun A H x y d1 d2 Q Qd al p1 p2 hg hq => ?_⟩
  cases d1 <;> cases d2 <;> first | exact hg.elim | skip
  · cases p2
    obtain ⟨z, rfl⟩ : ∃ z, z = x := ⟨_, rfl⟩
    cases p1
    rename_i z i
    simp only [gIx] at hg
    cases e : atI z.cps.toList i with
    | none => rw [e] at hg; exact hg.elim
    | some c => rw [e] at hg; exact .inr (.inr ⟨z, i, c, rfl, rfl, sz_le hg.1, e, hq _ hg.2 A H _ [] (Grow.same A H) rp_str⟩)
  · cases p2
    obtain ⟨a, vs, g, rfl, q, r⟩ := p1
    rename_i ds i
    simp only [gIx] at hg
    cases e : atI ds i with
    | none => rw [e] at hg; exact hg.elim
    | some d =>
      rw [e] at hg
      cases m : d.isFz with
      | false => simp [m] at hg
      | true =>
        simp only [m, cond_true] at hg
        obtain ⟨v, g', ev, p, _⟩ := r.atI e
        have := Rp.fz _ _ _ m p
        subst this
        exact .inr (.inl ⟨a, vs, i, v, rfl, rfl, by rw [hK]; exact q, ev, hq _ hg A H _ [] (Grow.same A H) p⟩)
  · cases p2
    obtain ⟨a, vs, rfl, q, r⟩ := p1
    rename_i o ds i
    simp only [gIx] at hg
    cases e : atI ds i with
    | none => rw [e] at hg; exact hg.elim
    | some d =>
      rw [e] at hg
      obtain ⟨v, g', ev, p, sub⟩ := r.atI e
      have : g' = [] := List.eq_nil_iff_forall_not_mem.mpr fun a ha => by cases sub a ha
      subst this
      exact .inl ⟨a, vs, i, v, rfl, rfl, SqL.of q, ev, hq _ hg A H _ [] (Grow.same A H) p⟩
def gLen : List D → (D → Prop) → Prop
  | [.lst _ ds], Q => Q (.int ds.length)
  | [.tup ds], Q => Q (.int ds.length)
  | [.str z], Q => z.length ≤ 1000000 ∧ Q (.int z.length)
  | _, _ => False
theorem pka1 {A : Addr → Prop} {H : Hp} {d : D} {xs : List V} (h : PkA B A H [d] xs) : ∃ x, xs = [x] ∧ Pk B A H d x := by
  obtain ⟨x, vr, rfl, p, q⟩ := h
  have q : vr = [] := q
  subst q
  exact ⟨x, rfl, p⟩
theorem pka2 {A : Addr → Prop} {H : Hp} {d e : D} {xs : List V} (h : PkA B A H [d, e] xs) : ∃ x y, xs = [x, y] ∧ Pk B A H d x ∧ Pk B A H e y := by
  obtain ⟨x, vr, rfl, p, q⟩ := h
  obtain ⟨y, e1, q1⟩ := pka1 q
  subst e1
  exact ⟨x, y, rfl, p, q1⟩
theorem cd_len (hK : X.K = B.K := by rfl) : CallD B X (.builtin "len") gLen := by
  refine ⟨_, call_lenN, fun A H xs ds Q Qd al p1 hg hq => ?_⟩
  unfold gLen at hg
  split at hg
  · obtain ⟨x, rfl, a, vs, rfl, q, r⟩ := pka1 p1
    refine ⟨_, _, rfl, .inl ⟨vs, SqL.of q, rfl⟩, ?_⟩
    rw [RpA.len _ _ _ r]
    exact hq _ hg A H _ [] (Grow.same A H) rp_int
  · obtain ⟨x, rfl, a, vs, g, rfl, q, r⟩ := pka1 p1
    refine ⟨_, _, rfl, .inr ⟨vs, by rw [hK]; exact q, rfl⟩, ?_⟩
    rw [RpA.len _ _ _ r]
    exact hq _ hg A H _ [] (Grow.same A H) rp_int
  · obtain ⟨x, rfl, q⟩ := pka1 p1
    cases q
    exact ⟨_, _, rfl, ⟨sz_le hg.1, rfl⟩, hq _ hg.2 A H _ [] (Grow.same A H) rp_int⟩
  · exact hg.elim
def gInt : List D → (D → Prop) → Prop
  | [.int i], Q => Q (.int i)
  | [.bl b], Q => Q (.int (if b then 1 else 0))
  | _, _ => False
def gList : List D → (D → Prop) → Prop
  | [.lst _ ds], Q => Q (.lst true ds)
  | [.tup ds], Q => cond (D.isFzA ds) (Q (.lst true ds)) False
  | _, _ => False
theorem cd_list (hK : X.K = B.K := by rfl) : CallD B X (.type "list") gList := by
  refine ⟨_, call_listN, fun A H xs ds Q Qd al p1 hg hq => ?_⟩
  unfold gList at hg
  split at hg
  · obtain ⟨x, rfl, a, vs, rfl, q, r⟩ := pka1 p1
    exact ⟨a, vs, rfl, .inl (SqL.of q), fun p hp => hq _ hg _ _ _ [p] (Grow.own (Keep.new hp) hp) (rp_newL hp r)⟩
  · obtain ⟨x, rfl, a, vs, g, rfl, q, r⟩ := pka1 p1
    rename_i ds
    cases m : D.isFzA ds with
    | false => simp [m] at hg
    | true =>
      simp only [m, cond_true] at hg
      have := RpA.fz _ _ _ m r
      subst this
      exact ⟨a, vs, rfl, .inr (by rw [hK]; exact q), fun p hp => hq _ hg _ _ _ [p] (Grow.own (Keep.new hp) hp) (rp_newL hp r)⟩
  · exact hg.elim
def gTuple : List D → (D → Prop) → Prop
  | [.lst _ ds], Q => Q (.tup ds)
  | [.tup ds], Q => cond (D.isFzA ds) (Q (.tup ds)) False
  | _, _ => False
/-- all bools -/
def D.blsA : List D → Option (List Bool)
  | [] => some []
  | .bl b :: ds => (D.blsA ds).map (b :: ·)
  | _ :: _ => none
theorem RpA.bls {A : Addr → Prop} {H : Hp} : ∀ (ds : List D) (vs : List V) (f : List Addr) (bs : List Bool), RpA B A H ds vs f → D.blsA ds = some bs → vs = bs.map V.bl
  | [], _, _, _, h, e => by rw [RpA] at h; obtain ⟨rfl, _⟩ := h; cases e; rfl
  | d :: ds, _, _, bs, h, e => by
    rw [RpA] at h
    obtain ⟨v, vr, g, k, rfl, rfl, p, q⟩ := h
    cases d <;> first | (cases e; done) | skip
    rw [D.blsA] at e
    cases m : D.blsA ds with
    | none => rw [m] at e; cases e
    | some cs =>
      rw [m] at e
      cases e
      rw [Rp] at p
      obtain ⟨rfl, _⟩ := p
      rw [RpA.bls ds vr k cs q m]
      rfl
def gAllB (k : List Bool → Bool) : List D → (D → Prop) → Prop
  | [.lst _ ds], Q => match D.blsA ds with
    | some bs => Q (.bl (k bs))
    | none => False
  | _, _ => False
theorem cd_all (hc : X.calm = true := by rfl) (hK : X.K = B.K := by rfl) : CallD B X (.builtin "all") (gAllB fun bs => bs.all id) := by
  refine ⟨_, cr_all hc, fun A H xs ds Q Qd al p1 hg hq => ?_⟩
  unfold gAllB at hg
  split at hg
  · obtain ⟨x, rfl, a, vs, rfl, q, r⟩ := pka1 p1
    split at hg
    · rename_i bs m
      have e := RpA.bls _ _ _ _ r m
      subst e
      exact ⟨a, bs, rfl, SqL.of q, hq _ hg A H _ [] (Grow.same A H) rp_bl⟩
    · exact hg.elim
  · exact hg.elim
end
end DL
namespace DL
open PySem PySem.Spec PyProof.Rows L2 PB
def wipeD (ρ : Rho) : List Nat → Rho
  | [] => ρ
  | v :: vs => (wipeD ρ vs).set v none
def wiSeq (w : WD) : WI := fun ρ Q X => w ρ (fun d ρ1 => match d with
  | .lst _ ds => Q ds ρ1
  | .tup ds => cond (D.isFzA ds) (Q ds ρ1) False
  | _ => False) X
def wiStr (w : WD) : WI := fun ρ Q X => w ρ (fun d ρ1 => match d with
  | .str z => Q (z.cps.toList.map fun c => .str ⟨#[c]⟩) ρ1
  | _ => False) X
def rngD (lo : Int) (n : Nat) : List D := (List.range n).map fun k : Nat => .int (lo + (k : Int))
def wiRng1 (o : Opd) : WI := fun ρ Q X => wOps [o] ρ (fun ds ρ1 => match ds with
  | [.int j] => j < 1000000 ∧ -1000000 ≤ j ∧ Q (rngD 0 j.toNat) ρ1
  | _ => False) X
def wiRng2 (o u : Opd) : WI := fun ρ Q X => wOps [o, u] ρ (fun ds ρ1 => match ds with
  | [.int i, .int j] => (j < 1000000 ∧ -1000000 ≤ j ∧ i < 1000000 ∧ -1000000 ≤ i) ∧ Q (rngD i (j - i).toNat) ρ1
  | _ => False) X
def wYes : WT := fun ρ Q _ => Q true ρ
def wLc (wi : WI) (g : WG) (t : WT) (e : WD) (vs : List Nat) : WD := fun ρ Q X => wi ρ (fun items ρ1 => ∃ Iv : Nat → List D → Rho → Prop, Iv 0 [] (wipeD ρ1 vs) ∧
  (∀ k d acc ρ', items[k]? = some d → Iv k acc ρ' → g d ρ' fun ρ2 => t ρ2 (fun b ρ3 => if b = true then e ρ3 (fun r ρ4 => acc.length < 1000000 ∧ cond r.mayFreeze (Iv (k + 1) (acc ++ [r.freeze]) (wipeD ρ4 vs)) False) (fun _ _ => False) else Iv (k + 1) acc (wipeD ρ3 vs)) fun _ _ => False) ∧
  ∀ acc ρ', Iv items.length acc ρ' → Q (.lst true acc) (wipeD ρ' vs)) X
section
variable {B : Bs} {A A' A1 A2 A3 : Addr → Prop} {F F' F1 F2 F3 : List Addr} {H H' H1 H2 H3 : Hp} {pr : Nat → Option V} {σ σ' : L2.St} {ρ ρ1 ρ2 ρ3 : Rho} {v x y : V} {d d1 d2 : D} {f f1 f2 : List Addr} {W : WX} {Xd : XD}
theorem EnvR.any : ∀ (ρ : Rho) (σ : L2.St) (f : List Addr) (i : Nat) (x : Option V), ρ[i]? = some none → EnvR B A H ρ σ f → EnvR B A H ρ (σ.set i x) f
  | [], _, _, _, _, e, _ => by simp at e
  | y :: ρ, _, f, 0, x, e, h => by
    simp at e
    subst e
    rw [EnvR] at h
    obtain ⟨x0, σr, rfl, h⟩ := h
    rw [List.set_cons_zero, EnvR]
    exact ⟨_, _, rfl, h⟩
  | none :: ρ, _, f, i + 1, x, e, h => by
    rw [EnvR] at h
    obtain ⟨x0, σr, rfl, h⟩ := h
    rw [List.set_cons_succ, EnvR]
    exact ⟨_, _, rfl, EnvR.any ρ σr f i x (by simpa using e) h⟩
  | some d :: ρ, _, f, i + 1, x, e, h => by
    rw [EnvR] at h
    obtain ⟨v, σr, g, k, rfl, rfl, p, h⟩ := h
    rw [List.set_cons_succ, EnvR]
    exact ⟨v, _, g, k, rfl, rfl, p, EnvR.any ρ σr k i x (by simpa using e) h⟩
theorem wipe_env (e : EnvR B A H ρ σ F) : ∀ vs : List Nat, ∃ F', F'.Sublist F ∧ EnvR B A H (wipeD ρ vs) (wipe σ vs) F'
  | [] => ⟨F, .refl _, e⟩
  | v :: vs => by
    obtain ⟨F1, s1, e1⟩ := wipe_env e vs
    obtain ⟨F2, s2, e2⟩ := EnvR.off _ _ _ v e1
    exact ⟨F2, s2.trans s1, e2 none⟩
theorem wipeD_none (ρ : Rho) : ∀ (vs : List Nat) (i : Nat), i ∈ vs → i < ρ.length → (wipeD ρ vs)[i]? = some none
  | [], _, h, _ => by cases h
  | v :: vs, i, h, hl => by
    have ll : ∀ vs : List Nat, (wipeD ρ vs).length = ρ.length := fun vs => by
      induction vs with
      | nil => rfl
      | cons v vs ih => rw [wipeD, List.length_set, ih]
    rw [wipeD, List.getElem?_set]
    by_cases hv : v = i
    · subst hv; simp [ll, hl]
    · simp only [hv, if_false]
      exact wipeD_none ρ vs i (by simpa [Ne.symm hv] using h) hl
theorem wipeD_len (ρ : Rho) : ∀ vs : List Nat, (wipeD ρ vs).length = ρ.length
  | [] => rfl
  | v :: vs => by rw [wipeD, List.length_set, wipeD_len ρ vs]
theorem wipe_off (σ : L2.St) : ∀ (vs : List Nat) (i : Nat), i ∉ vs → (wipe σ vs)[i]? = σ[i]?
  | [], _, _ => rfl
  | v :: vs, i, h => by
    rw [wipe, List.getElem?_set]
    have hv : v ≠ i := fun z => h (by simp [z])
    simp only [hv, if_false]
    exact wipe_off σ vs i fun z => h (List.mem_cons_of_mem _ z)
theorem wipe_on (σ : L2.St) : ∀ (vs : List Nat) (i : Nat), i ∈ vs → i < σ.length → (wipe σ vs)[i]? = some none
  | [], _, h, _ => by cases h
  | v :: vs, i, h, hl => by
    rw [wipe, List.getElem?_set]
    by_cases hv : v = i
    · subst hv; simp [wipe_length, hl]
    · simp only [hv, if_false]
      exact wipe_on σ vs i (by simpa [Ne.symm hv] using h) hl
theorem agree_wipe {L vs : List Nat} (hL : ∀ i ∈ L, i ∈ vs) (h : Agree L (wipe σ vs) σ') : wipe σ' vs = wipe σ vs := by
  have hl : σ'.length = σ.length := by rw [h.1, wipe_length]
  refine List.ext_getElem? fun i => ?_
  by_cases hi : i ∈ vs
  · by_cases hb : i < σ.length
    · rw [wipe_on σ' vs i hi (by omega), wipe_on σ vs i hi hb]
    · rw [List.getElem?_eq_none (by rw [wipe_length]; omega), List.getElem?_eq_none (by rw [wipe_length]; omega)]
  · rw [wipe_off σ' vs i hi, h.2 i fun z => hi (hL i z)]
/-- slots that are empty may hold anything -/
theorem unwipe (e : EnvR B A H (wipeD ρ vs) σ' F) (hs : wipe σ' vs = wipe σ vs) (hl : σ'.length = σ.length) : EnvR B A H (wipeD ρ vs) σ F := by
  have key : ∀ us : List Nat, (∀ i ∈ us, i ∈ vs) → ∃ τ : L2.St, EnvR B A H (wipeD ρ vs) τ F ∧ τ.length = σ.length ∧ (∀ i : Nat, i ∈ us → τ[i]? = σ[i]?) ∧ ∀ i : Nat, i ∉ us → τ[i]? = σ'[i]? := by
    intro us
    induction us with
    | nil => exact fun _ => ⟨σ', e, hl, by simp, fun _ _ => rfl⟩
    | cons u us ih =>
      intro h
      obtain ⟨τ, e1, l1, a1, b1⟩ := ih fun i hi => h i (List.mem_cons_of_mem _ hi)
      by_cases hu : u < σ.length
      · obtain ⟨x, hx⟩ : ∃ x, σ[u]? = some x := ⟨_, List.getElem?_eq_getElem hu⟩
        have hr : u < (wipeD ρ vs).length := by rw [EnvR.len _ _ _ e1, l1]; exact hu
        have e2 := EnvR.any (wipeD ρ vs) τ F u x (wipeD_none ρ vs u (h u (List.mem_cons_self ..)) (by rw [wipeD_len] at hr; exact hr)) e1
        refine ⟨τ.set u x, e2, by rw [List.length_set, l1], fun i hi => ?_, fun i hi => ?_⟩
        · rw [List.getElem?_set]
          by_cases hui : u = i
          · subst hui
            have : u < List.length τ := by omega
            simp [this, hx]
          · simp only [hui, if_false]
            exact a1 i (by simpa [Ne.symm hui] using hi)
        · rw [List.getElem?_set]
          have hui : u ≠ i := fun z => hi (by simp [z])
          simp only [hui, if_false]
          exact b1 i fun z => hi (List.mem_cons_of_mem _ z)
      · refine ⟨τ, e1, l1, fun i hi => ?_, fun i hi => b1 i fun z => hi (List.mem_cons_of_mem _ z)⟩
        rcases List.mem_cons.mp hi with z | z
        · subst z
          rw [List.getElem?_eq_none (by omega), List.getElem?_eq_none (by omega)]
        · exact a1 i z
  obtain ⟨τ, e1, l1, a1, b1⟩ := key vs fun _ h => h
  have : τ = σ := by
    refine List.ext_getElem? fun i => ?_
    by_cases hi : i ∈ vs
    · exact a1 i hi
    · rw [b1 i hi, ← wipe_off σ' vs i hi, hs, wipe_off σ vs i hi]
  rw [← this]
  exact e1
end
section
variable {B : Bs} {X : Cx} {pr : Nat → Option V} {W : WX} {a b c e elt iter tg it : Expr} {ifs : List Expr} {es : List Expr} {pos p : Pos} {oa ob oc : Opd} {wa wb wc : WD} {ta tb : WT} {g : WG} {wi : WI} {L : List Nat} {scope : Scope} {own : List (Str × Nat)}
def DTs (B : Bs) (X : Cx) (pr : Nat → Option V) (W : WX) (es : List Expr) (w : WT) : Prop := PTs X es (liftT B pr W w)
theorem dts_nil : DTs B X pr W [] wYes := ⟨fun pins s σ H Q I ⟨A, F, ρ, Qd, Xd, e, h, hq, hx⟩ => pts_nil.run pins s σ H Q I (hq true ρ h A F H (Step.refl A F H) e)⟩
theorem Step.of_grow {A A' : Addr → Prop} {F : List Addr} {H H' : Hp} {f : List Addr} (gr : Grow A H A' H' f) : Step A F H A' F H' := ⟨⟨fun b o _ h => gr.keep.at_ b o (by simp) h, gr.keep.imm⟩, fun a h => .inl h, fun a h => (gr.ao a h).imp id (gr.nw a), fun a h _ => gr.ak a h⟩
theorem kid_at {A A' : Addr → Prop} {F F' : List Addr} {H H' : Hp} {ds : List D} {vs : List V} {i : Nat} {d : D} (fa : ∀ a ∈ F, A a) (s : Step A F H A' F' H') (r : RpA B A H ds vs []) (hi : ds[i]? = some d) : ∃ v, vs[i]? = some v ∧ Rp B A' H' d v [] := by
  obtain ⟨v, g, e, p, sub⟩ := RpA.get ds vs [] i d r hi
  have : g = [] := List.eq_nil_iff_forall_not_mem.mpr fun a ha => by cases sub a ha
  subst this
  exact ⟨v, e, Rp.stay ⟨s.keep, fa, s.ao, s.ak⟩ d v [] (by simp) p⟩
theorem di_seq (h : DE B X pr W it wa) (hK : X.K = B.K := by rfl) : DI B X pr W tg it (wiSeq wa) := by
  refine piW (pi_seqK h hK) fun σ H R ⟨A, F, ρ, Qd, Xd, e, h, hq, hx⟩ => ⟨A, F, ρ, _, Xd, e, h, fun d ρ' hd A1 F1 H1 v f o => ?_, hx⟩
  cases d <;> first | exact hd.elim | skip
  · rename_i ds
    cases m : D.isFzA ds with
    | false => simp [m] at hd
    | true =>
      simp only [m, cond_true] at hd
      have r := o.val
      rw [Rp] at r
      obtain ⟨a, vs, rfl, q, r⟩ := r
      have := RpA.fz _ _ _ m r
      subst this
      have hl := RpA.len _ _ _ r
      refine .inr ⟨a, rfl, ⟨vs, q⟩, hq ds ρ' hd A1 F1 H1 _ o.step o.env fun i F2 A2 F3 H2 fa st al => ⟨fun d hi => ?_, fun hi => ⟨vs, st.keep.seqT q, by omega⟩⟩⟩
      obtain ⟨x, ex, px⟩ := kid_at fa st r hi
      refine ⟨⟨vs, x, st.keep.seqT q, ex⟩, fun y H3 hy => ?_⟩
      obtain ⟨rfl, hy⟩ := hy
      have := hy vs (st.keep.seqT q)
      rw [ex] at this
      cases this
      exact ⟨A2, [], Grow.same A2 _, px⟩
  · rename_i ow ds
    have o2 := Out.freeze e o rfl
    have r := o2.val
    rw [D.freeze, Rp] at r
    obtain ⟨a, vs, rfl, r, q, na, _⟩ := r
    have hl := RpA.len _ _ _ r
    have at_ : ∀ {F2 : List Addr} {A2 : Addr → Prop} {F3 : List Addr} {H2 : Hp}, (∀ a ∈ F2, Less A1 f a) → Step (Less A1 f) F2 H1 A2 F3 H2 → H2 a = some (.lst vs) := fun fa st => st.keep.at_ _ _ (fun z => na (fa a z)) q
    refine .inl ⟨a, rfl, ⟨vs, SqL.of q⟩, hq ds ρ' hd _ F1 H1 _ o2.step o2.env fun i F2 A2 F3 H2 fa st al => ⟨fun d hi => ?_, fun hi => ⟨vs, SqL.of (at_ fa st), by omega⟩⟩⟩
    obtain ⟨x, ex, px⟩ := kid_at fa st r hi
    refine ⟨⟨vs, x, SqL.of (at_ fa st), ex⟩, fun y H3 hy => ?_⟩
    obtain ⟨rfl, hy⟩ := hy
    have := hy vs (SqL.of (at_ fa st))
    rw [ex] at this
    cases this
    exact ⟨A2, [], Grow.same A2 _, px⟩
theorem rng_get {lo : Int} {n i : Nat} {d : D} (h : (rngD lo n)[i]? = some d) : i < n ∧ d = .int (lo + i) := by
  unfold rngD at h
  rw [List.getElem?_map] at h
  cases q : (List.range n)[i]? with
  | none => rw [q] at h; cases h
  | some k =>
    rw [q] at h
    obtain ⟨hl, e⟩ := List.getElem?_eq_some_iff.mp q
    simp at hl e
    subst e
    cases h
    exact ⟨hl, rfl⟩
theorem rng_len (lo : Int) (n : Nat) : (rngD lo n).length = n := by simp [rngD]
theorem yields_rng {A : Addr → Prop} {H : Hp} {lo : Int} {n : Nat} : Yields B A H (Itr lo n) (rngD lo n) := fun i F2 A2 F3 H2 fa st al => ⟨fun d hi => by
  obtain ⟨hl, rfl⟩ := rng_get hi
  refine ⟨hl, fun y H3 hy => ?_⟩
  obtain ⟨rfl, rfl⟩ := hy
  exact ⟨A2, [], Grow.same A2 _, rp_int⟩, fun hi => by rw [rng_len] at hi; exact hi⟩
theorem di_range1 (hg : Gl X "range") (hm : X.mg "range" = none) (ha : DO B X pr W a oa) (hs : starEach [a] X.env = [(false, eval a X.env)] := by rfl) (hs0 : starEach [a] X.env = (false, eval a X.env) :: starEach [] X.env := by rfl) : DI B X pr W tg (.Call (.Name "range" p) [a] [] pos) (wiRng1 oa) := by
  refine piW (pi_range1 hg hm (dos_cons ha dos_nil hs0) hs) fun σ H R ⟨A, F, ρ, Qd, Xd, e, h, hq, hx⟩ => lift_ops [oa] e h hx fun ds ρ' hd A1 F1 H1 vs st e1 pk => ?_
  split at hd
  · obtain ⟨x, rfl, q⟩ := pka1 pk
    cases q
    exact ⟨_, rfl, by omega, by omega, hq _ ρ' hd.2.2 A1 F1 H1 _ st e1 yields_rng⟩
  · exact hd.elim
theorem lift_lc {t : TT} {te : TE} {gg : TG} {vs : List Nat} (hL : ∀ i ∈ L, i ∈ vs) (hp : ∀ i ∈ vs, pr i = none) (hg : ∀ v σ H Q, liftG B pr L g v σ H Q → gg v σ H Q) (ht : ∀ σ H Q, liftT B pr W0 ta σ H Q → t σ H Q) (he : ∀ σ H Q, liftE B pr W0 wa σ H Q → te σ H Q)
    {σ : L2.St} {H : Hp} {Q : VK} (h : liftE B pr W (wLc wi g ta wa vs) σ H Q) : tLc (liftI B pr W wi) gg t te vs σ H Q := by
  obtain ⟨A, F, ρ, Qd, Xd, e, h, hq, hx⟩ := h
  refine ⟨A, F, ρ, _, Xd, e, h, fun items ρ1 hd A1 F1 H1 J st e1 y => ?_, hx⟩
  obtain ⟨Iv, i0, turn, last⟩ := hd
  intro Dl hD
  have gr : Grow A1 H1 (More A1 Dl) (upd H1 Dl (.lst [])) [Dl] := Grow.own (Keep.new hD) hD
  have e2 := e1.grow gr fun a ha => by simp at ha; subst ha; rw [upd_same]; simp
  obtain ⟨F2, sub, r2⟩ := wipe_env e2.r vs
  have hDF : Dl ∉ F1 := fun z => e1.al Dl (e1.fa Dl z) hD
  have prw : ∀ {τ : L2.St}, wipe τ vs = wipe σ vs → τ.length = σ.length → ∀ i v, pr i = some v → τ[i]? = some (some v) := fun hw hl i v hi => by
    have hv : i ∉ vs := fun z => by rw [hp i z] at hi; cases hi
    rw [← wipe_off _ vs i hv, hw, wipe_off _ vs i hv]
    exact e.pr i v hi
  have ww : wipe (wipe σ vs) vs = wipe σ vs := agree_wipe (L := []) (by simp) (Agree.refl _ _)
  have e3 : Env B (More A1 Dl) (upd H1 Dl (.lst [])) pr (wipe σ vs) (wipeD ρ1 vs) F2 := ⟨r2, e1.nd.sublist sub, e2.al, prw ww (wipe_length σ vs)⟩
  refine ⟨fun i m H' => i + m = items.length ∧ ∃ A' F' ρ' acc ws, Step A1 F1 H1 A' F' H' ∧ Env B A' H' pr (wipe σ vs) ρ' F' ∧ A' Dl ∧ Dl ∉ F' ∧ H' Dl = some (.lst ws) ∧ RpA B A' H' acc ws [] ∧ Iv i acc ρ', ⟨items.length, by omega, _, F2, _, [], [], ⟨(Step.of_grow (F := F1) gr).keep, fun a ha => .inl (sub.subset ha), (Step.of_grow (F := F1) gr).ao, (Step.of_grow (F := F1) gr).ak⟩, e3, .inr rfl, fun z => hDF (sub.subset z), upd_same, by rw [RpA]; exact ⟨rfl, rfl⟩, i0⟩, ?_⟩
  rintro i m H' ⟨him, A', F', ρ', acc, ws, s', e', aD, nD, hDl, ra, hI⟩
  have s1' := s'
  obtain ⟨y1, y2⟩ := y i F1 A' F' H' e1.fa s1' e'.al
  cases m with
  | zero =>
    have hl : i = items.length := by omega
    subst hl
    refine .inl ⟨y2 (Nat.le_refl _), ?_⟩
    obtain ⟨F3, sub3, r3⟩ := wipe_env e'.r vs
    rw [ww] at r3
    have r4 := unwipe (σ := σ) r3 ww (wipe_length σ vs)
    refine hq _ _ (last acc ρ' hI) A' F3 H' (.ref Dl) [Dl] (Out.seq e st ⟨⟨s1'.keep, fun a ha => s1'.fo a (sub3.subset ha), s1'.ao, s1'.ak⟩, ⟨r4, e'.nd.sublist sub3, e'.al, e.pr⟩, ?_, ?_, fun a ha => ?_⟩)
    · rw [Rp]
      exact ⟨Dl, ws, rfl, ra, hDl, aD, rfl⟩
    · exact List.nodup_cons.mpr ⟨fun z => nD (sub3.subset z), e'.nd.sublist sub3⟩
    · simp at ha; subst ha; exact .inr hD
  | succ m =>
    have hl : i < items.length := by omega
    have hd := List.getElem?_eq_getElem hl
    obtain ⟨go, yl⟩ := y1 _ hd
    refine .inr ⟨go, fun H3 => ∃ A3 F3 ρ3 acc3 ws3, Step A1 F1 H1 A3 F3 H3 ∧ Env B A3 H3 pr (wipe σ vs) ρ3 F3 ∧ A3 Dl ∧ Dl ∉ F3 ∧ H3 Dl = some (.lst ws3) ∧ RpA B A3 H3 acc3 ws3 [] ∧ Iv (i + 1) acc3 ρ3, fun H3 h3 => ⟨m, by omega, by omega, h3⟩, fun x H3 hy => ?_⟩
    obtain ⟨A3, f3, gr3, r3⟩ := yl x H3 hy
    have o3 := Out.grow (B := B) (pr := pr) (σ := wipe σ vs) (ρ := ρ') (F := F') e' gr3 r3
    have fo3 : ∀ a ∈ f3 ++ F', a ∈ F' ∨ H' a = none := fun a ha => (List.mem_append.mp ha).elim (o3.src a) fun z => .inl z
    refine hg _ _ _ _ ⟨A3, F', ρ', _, f3, _, o3.env, r3, o3.nd, turn i _ acc ρ' hd hI, fun ρ4 h4 σ4 A4 F4 H4 ag t4 e4 => ?_⟩
    have t04 : Step A' F' H' A4 F4 H4 := Step.trans e'.al e'.fa ⟨o3.step.keep, fo3, o3.step.ao, o3.step.ak⟩ t4
    have hw4 := agree_wipe hL ag
    have hl4 : List.length σ4 = List.length σ := ag.1.trans (wipe_length σ vs)
    refine ⟨hw4, ht _ _ _ ⟨A4, F4, ρ4, _, _, e4, h4, fun b ρ5 h5 A5 F5 H5 t5 e5 => ?_, fun _ _ z => z.elim⟩⟩
    have t05 := t04.trans e'.al e'.fa t5
    -- what is kept of the new list
    have keepD : ∀ {A6 : Addr → Prop} {F6 : List Addr} {H6 : Hp}, Step A' F' H' A6 F6 H6 → A6 Dl ∧ Dl ∉ F6 ∧ H6 Dl = some (.lst ws) ∧ RpA B A6 H6 acc ws [] := fun t6 =>
      ⟨t6.ak Dl aD nD, fun z => (t6.fo Dl z).elim nD (by rw [hDl]; simp), t6.keep.at_ _ _ nD hDl, RpA.stay ⟨t6.keep, e'.fa, t6.ao, t6.ak⟩ _ _ _ (by simp) ra⟩
    -- the slots of a turn's end
    have endE : ∀ {A6 : Addr → Prop} {F6 : List Addr} {H6 : Hp} {ρ6 : Rho}, Env B A6 H6 pr σ4 ρ6 F6 → ∃ F7, F7.Sublist F6 ∧ Env B A6 H6 pr (wipe σ vs) (wipeD ρ6 vs) F7 := fun e6 => by
      obtain ⟨F7, s7, r7⟩ := wipe_env e6.r vs
      rw [hw4] at r7
      exact ⟨F7, s7, r7, e6.nd.sublist s7, e6.al, prw ww (wipe_length σ vs)⟩
    cases b with
    | false =>
      dsimp only
      rw [if_neg (by simp)] at h5 ⊢
      obtain ⟨k1, k2, k3, k4⟩ := keepD t05
      obtain ⟨F7, s7, e7⟩ := endE e5
      have sx := s'.trans e1.al e1.fa t05
      exact ⟨A5, F7, _, acc, ws, ⟨sx.keep, fun a ha => sx.fo a (s7.subset ha), sx.ao, sx.ak⟩, e7, k1, fun z => k2 (s7.subset z), k3, k4, h5⟩
    | true =>
      dsimp only
      rw [if_pos rfl] at h5 ⊢
      refine he _ _ _ ⟨A5, F5, ρ5, _, _, e5, h5, fun r ρ6 h6 A6 F6 H6 w f6 o6 => ?_, fun _ _ z => z.elim⟩
      obtain ⟨hz, h6⟩ := h6
      cases mf : r.mayFreeze with
      | false => rw [mf] at h6; exact h6.elim
      | true =>
        rw [mf] at h6
        have o7 := Out.freeze e5 o6 mf
        have t07 := t05.trans e'.al e'.fa o7.step
        obtain ⟨k1, k2, k3, k4⟩ := keepD t07
        have hlen := RpA.len _ _ _ k4
        refine ⟨ws, k3, sz_lt (by omega), ?_⟩
        -- the new list grows
        have kD : Keep [Dl] H6 (upd H6 Dl (.lst (ws ++ [w]))) := Keep.set' (by simp) k3 (fun z => z)
        have s8 : Stays (Less A6 f6) [Dl] H6 (Less A6 f6) (upd H6 Dl (.lst (ws ++ [w]))) := ⟨kD, fun a ha => by simp at ha; subst ha; exact k1, fun a h => .inl h, fun a h _ => h⟩
        obtain ⟨F7, s7, e7⟩ := endE o7.env
        have e8 : Env B (Less A6 f6) (upd H6 Dl (.lst (ws ++ [w]))) pr (wipe σ vs) (wipeD ρ6 vs) F7 := ⟨EnvR.stay s8 _ _ _ (fun a ha => by simp; intro z; subst z; exact k2 (s7.subset ha)) e7.r, e7.nd, fun a h => by
          by_cases hz : a = Dl
          · subst hz; rw [upd_same]; simp
          · rw [upd_ne hz]; exact e7.al a h, e7.pr⟩
        have sx := s'.trans e1.al e1.fa t07
        refine ⟨_, F7, _, acc ++ [r.freeze], ws ++ [w], ⟨⟨fun b o n hb => ?_, fun b o im hb => kD.imm b o im (sx.keep.imm b o im hb)⟩, fun a ha => sx.fo a (s7.subset ha), sx.ao, sx.ak⟩, e8, k1, fun z => k2 (s7.subset z), upd_same, ?_, h6⟩
        · have hbD : b ≠ Dl := fun z => by subst z; rw [hD] at hb; cases hb
          rw [upd_ne hbD]
          exact sx.keep.at_ b o n hb
        · have ra8 := RpA.stay (B := B) s8 _ _ _ (by simp) k4
          have rw8 := Rp.stay (B := B) s8 _ _ _ (by simp) o7.val
          have := RpA.app _ _ _ _ _ _ ra8 (show RpA B (Less A6 f6) (upd H6 Dl (.lst (ws ++ [w]))) [r.freeze] [w] [] by rw [RpA]; exact ⟨w, [], [], [], rfl, rfl, rw8, by rw [RpA]; exact ⟨rfl, rfl⟩⟩)
          simpa using this
end
end DL
namespace DL
open PySem PySem.Spec PyProof.Rows L2 PB
section
variable {B : Bs} {X : Cx} {pr : Nat → Option V} {W : WX} {a b c e elt iter tg it o : Expr} {ifs : List Expr} {es : List Expr} {pos p apos cpos : Pos} {oa ob oc : Opd} {os : List Opd} {wa wb wc : WD} {ta tb : WT} {g : WG} {wi : WI} {L : List Nat} {scope : Scope} {own : List (Str × Nat)}
theorem pr_all {vs : List Nat} (h : vs.all (fun i => (pr i).isNone) = true) : ∀ i ∈ vs, pr i = none := fun i hi => by
  have := List.all_eq_true.mp h i hi
  simpa using this
theorem de_lc (hc : X.calm = true) (hN : X.N.Nodup) (hi : DI B X pr W tg iter wi) (ok : BlkOk X.N X.env.scope scope own)
    (hg : ∀ (s : Shared) (H : Hp) (C : Addr) (cl : List (Str × Addr)) (fp : List Addr), DG B (X.blk s H scope (compEnvC scope cl C X.env) fp) pr L tg g) (ht : ∀ (s : Shared) (H : Hp) (C : Addr) (cl : List (Str × Addr)) (fp : List Addr), DTs B (X.blk s H scope (compEnvC scope cl C X.env) fp) pr W0 ifs ta)
    (he : ∀ (s : Shared) (H : Hp) (C : Addr) (cl : List (Str × Addr)) (fp : List Addr), DE B (X.blk s H scope (compEnvC scope cl C X.env) fp) pr W0 elt wa)
    (hL : ∀ i ∈ L, i ∈ own.map (·.2) := by decide) (hp : (own.map (·.2)).all (fun i => (pr i).isNone) = true := by rfl) (hs : ∀ x, foldedSetIterable iter X.env x = pure x := by intro _; rfl) :
    DE B X pr W (.ListComp elt [⟨tg, iter, ifs, 0⟩] scope pos) (wLc wi g ta wa (own.map (·.2))) :=
  peW (pe_lc hc hN hi ok hg ht he hs) fun _ _ _ h => lift_lc hL (pr_all hp) (fun _ _ _ _ h => h) (fun _ _ _ h => h) (fun _ _ _ h => h) h
def onSome {α : Type} (d : Option α) (k : α → Prop) : Prop := match d with
  | some b => k b
  | none => False
theorem onSome_iff {α : Type} {d : Option α} {k : α → Prop} : onSome d k ↔ ∃ a, d = some a ∧ k a := by cases d <;> simp [onSome]
def onOwnL (d : D) (k : List D → Prop) : Prop := match d with
  | .lst true ds => k ds
  | _ => False
def onInt (d : D) (k : Int → Prop) : Prop := match d with
  | .int b => k b
  | _ => False
inductive FldOk (K : PySem.W.Frag) (f : Str) : List Str → Prop
  | nil : FldOk K f []
  | cons {c : Str} {cs : List Str} (h : Cls K (He.ga K c)) (n : NoAttr K (He.ga K c) f) (r : FldOk K f cs) : FldOk K f (c :: cs)
theorem FldOk.at_ {K : PySem.W.Frag} {f : Str} : ∀ {cs : List Str}, FldOk K f cs → ∀ c, cs.contains c = true → Cls K (He.ga K c) ∧ NoAttr K (He.ga K c) f
  | _, .nil, c, h => by simp at h
  | _, .cons (c := c0) h1 n r, c, h => by
    rw [List.contains_cons, Bool.or_eq_true] at h
    rcases h with h | h
    · rw [beq_iff_eq] at h; subst h; exact ⟨h1, n⟩
    · exact r.at_ c h
def fldD (cs : List Str) (f : Str) (d : D) (k : D → Prop) : Prop := match d with
  | .ins _ c ns ds => cs.contains c = true ∧ onSome ((ns.zip ds).lookup f) fun d => cond d.isFz (k d) False
  | _ => False
def wFld (cs : List Str) (f : Str) : Opd → WD := wUn fun d k => fldD cs f d k
theorem zip_lookup {A : Addr → Prop} {H : Hp} {f : Str} {d : D} : ∀ (ns : List Str) (ds : List D) (vs : List V) (g : List Addr), RpA B A H ds vs g → (ns.zip ds).lookup f = some d → ∃ v g', (ns.zip vs).lookup f = some v ∧ Rp B A H d v g' ∧ ∀ a ∈ g', a ∈ g
  | [], _, _, _, _, h => by simp at h
  | n :: ns, [], _, _, _, h => by simp at h
  | n :: ns, d0 :: ds, _, g, r, h => by
    rw [RpA] at r
    obtain ⟨v, vr, g1, g2, rfl, rfl, p, q⟩ := r
    rw [List.zip_cons_cons, List.lookup_cons] at h ⊢
    cases m : f == n with
    | true =>
      rw [m] at h
      cases h
      exact ⟨v, g1, rfl, p, fun a ha => List.mem_append_left _ ha⟩
    | false =>
      rw [m] at h
      obtain ⟨v', g', e1, p1, s1⟩ := zip_lookup ns ds vr g2 q h
      exact ⟨v', g', e1, p1, fun a ha => List.mem_append_right _ (s1 a ha)⟩
theorem sim_fld {K : PySem.W.Frag} {cs : List Str} {f : Str} (hK : K = B.K) (hf : FldOk K f cs) : Sim1 B (fun x H Q => GetF K f x H Q) (fun d k => fldD cs f d k) := by
  intro A H x d1 Q Qd al p1 hg hq
  subst hK
  cases d1 <;> first | exact hg.elim | skip
  rename_i ow c ns ds
  obtain ⟨a, dx, vs, g, rfl, q, ql, r⟩ := p1
  obtain ⟨hc, hg⟩ := hg
  obtain ⟨h1, h2⟩ := hf.at_ c hc
  obtain ⟨d, m, hg⟩ := onSome_iff.mp hg
  cases mz : d.isFz with
  | false => simp [mz] at hg
  | true =>
      simp only [mz, cond_true] at hg
      obtain ⟨v, g', ev, pv, _⟩ := zip_lookup ns ds vs g r m
      have := Rp.fz _ _ _ mz pv
      subst this
      exact ⟨a, _, dx, _, v, rfl, q, h1, h2, ev, hq _ hg A H _ [] (Grow.same A H) pv⟩
theorem de_fld {cs : List Str} {f : Str} (hf : FldOk X.K f cs) (he : DO B X pr W e oa) (hK : X.K = B.K := by rfl) (hb : attributeBase e f X.env (eval e X.env) = eval e X.env := by rfl) : DE B X pr W (.Attribute e f pos) (wFld cs f oa) :=
  peW (pe_fld he hb) fun _ _ _ h => lift_un (r := fun x H Q => GetF X.K f x H Q) (sim_fld hK hf) h
/-- self.f = v -/
def putNs (f : Str) (ns : List Str) : List Str := if ns.contains f then ns else ns ++ [f]
def putDs (f : Str) (d : D) : List Str → List D → List D
  | n :: ns, x :: ds => if n = f then d :: ds else x :: putDs f d ns ds
  | _, _ => [d]
def sPut (cs : List Str) (f : Str) (i : Nat) (w : WD) : WS := fun E ρ => w ρ (fun d ρ1 => sl ρ1 i fun s => match s with
  | .ins true c ns ds => cs.contains c = true ∧ ns.length < 900 ∧ E.nx (ρ1.set i (some (.ins true c (putNs f ns) (putDs f d ns ds))))
  | _ => False) E.xx
theorem put_rp {A : Addr → Prop} {H : Hp} {f : Str} {d : D} {y : V} {fd : List Addr} (hy : Rp B A H d y fd) : ∀ (ns : List Str) (ds : List D) (vs : List V) (g : List Addr), ns.length = ds.length → RpA B A H ds vs g → ∃ g' vs', putF f y (ns.zip vs) = (putNs f ns).zip vs' ∧ RpA B A H (putDs f d ns ds) vs' g' ∧ (putNs f ns).length = (putDs f d ns ds).length ∧ (∀ a ∈ g', a ∈ g ∨ a ∈ fd) ∧ ((fd ++ g).Nodup → g'.Nodup)
  | [], [], vs, g, _, r => by
    rw [RpA] at r
    obtain ⟨rfl, rfl⟩ := r
    refine ⟨fd, [y], by simp [putF, putNs], ?_, by simp [putNs, putDs], fun a ha => .inr ha, fun h => by simpa using h⟩
    rw [putDs, RpA]
    · exact ⟨y, [], fd, [], rfl, by simp, hy, by rw [RpA]; exact ⟨rfl, rfl⟩⟩
    · simp
  | [], _ :: _, _, _, hl, _ => by simp at hl
  | _ :: _, [], _, _, hl, _ => by simp at hl
  | n :: ns, d0 :: ds, _, g, hl, r => by
    rw [RpA] at r
    obtain ⟨v, vr, g1, g2, rfl, rfl, p, q⟩ := r
    rw [List.zip_cons_cons, putF]
    by_cases hn : n = f
    · subst hn
      have hc : (n :: ns).contains n = true := by simp
      refine ⟨fd ++ g2, y :: vr, by simp [putNs], ?_, by simp [putNs, putDs]; simpa using hl, fun a ha => ?_, fun h => ?_⟩
      · rw [putDs, if_pos rfl, RpA]
        exact ⟨y, vr, fd, g2, rfl, rfl, hy, q⟩
      · rcases List.mem_append.mp ha with z | z
        · exact .inr z
        · exact .inl (List.mem_append_right _ z)
      · exact h.sublist (List.Sublist.append_left (List.sublist_append_right ..) fd)
    · obtain ⟨g', vs', e1, r1, l1, s1, nd1⟩ := put_rp hy ns ds vr g2 (by simpa using hl) q
      have hb : (n :: ns).contains f = ns.contains f := by
        rw [List.contains_cons]
        have : (f == n) = false := by simpa using fun z : f = n => hn z.symm
        rw [this, Bool.false_or]
      refine ⟨g1 ++ g', v :: vs', ?_, ?_, ?_, fun a ha => ?_, fun h => ?_⟩
      · rw [if_neg hn, e1]
        unfold putNs
        rw [hb]
        split <;> simp
      · rw [putDs, if_neg hn, RpA]
        exact ⟨v, vs', g1, g', rfl, rfl, p, r1⟩
      · unfold putNs at l1 ⊢
        rw [hb, putDs, if_neg hn, List.length_cons, ← l1]
        split <;> simp
      · rcases List.mem_append.mp ha with z | z
        · exact .inl (List.mem_append_left _ z)
        · exact (s1 a z).imp (fun z => List.mem_append_right _ z) id
      · have h2 := List.nodup_append.mp h
        have h3 := List.nodup_append.mp h2.2.1
        refine List.nodup_append.mpr ⟨h3.1, nd1 (h.sublist (List.Sublist.append_left (List.sublist_append_right ..) fd)), fun a ha b hb z => ?_⟩
        subst z
        rcases s1 a hb with z | z
        · exact h3.2.2 a ha a z rfl
        · exact h2.2.2 a z a (List.mem_append_left _ ha) rfl
/-- the list in a slot -/
theorem Env.lst {A : Addr → Prop} {H : Hp} {σ : L2.St} {ρ : Rho} {F : List Addr} {i : Nat} {ds : List D} (en : Env B A H pr σ ρ F) (hi : ρ[i]? = some (some (.lst true ds))) : ∃ a vs, σ[i]? = some (some (.ref a)) ∧ H a = some (.lst vs) ∧ RpA B A H ds vs [] ∧
    ∀ ds' vs', RpA B A H ds' vs' [] → Env B A (upd H a (.lst vs')) pr σ (ρ.set i (some (.lst true ds'))) F ∧ Step A F H A F (upd H a (.lst vs')) ∧ Stays A [a] H A (upd H a (.lst vs')) := by
  obtain ⟨v, f1, g, f2, ev, rfl, p, back⟩ := EnvR.at_ ρ σ F i _ hi en.r
  rw [Rp] at p
  obtain ⟨a, vs, rfl, r, q, qa, rfl⟩ := p
  refine ⟨a, vs, ev, q, r, fun ds' vs' r' => ?_⟩
  have nd := en.nd
  have kp : Keep [a] H (upd H a (.lst vs')) := Keep.set' (by simp) q (fun z => z)
  have st : Stays A [a] H A (upd H a (.lst vs')) := ⟨kp, fun z hz => by simp at hz; subst hz; exact qa, fun z hz => .inl hz, fun z hz _ => hz⟩
  have n1 := List.nodup_append.mp nd
  have n2 := List.nodup_append.mp n1.1
  have off : ∀ z ∈ f1 ++ f2, z ≠ a := fun z hz e => by
    subst e
    rcases List.mem_append.mp hz with w | w
    · exact n2.2.2 z w z (by simp) rfl
    · exact n1.2.2 z (by simp) z w rfl
  have er := back A (upd H a (.lst vs')) (.lst true ds') (.ref a) [a] (fun rr ss hh e1 e2 => EnvR.stay st rr ss hh (fun z hz => by simp; exact off z (e2 z hz)) e1) (by rw [Rp]; exact ⟨a, vs', rfl, RpA.stay st _ _ _ (by simp) r', upd_same, qa, rfl⟩)
  rw [set_same ev] at er
  refine ⟨⟨er, nd, fun z hz => ?_, en.pr⟩, ⟨kp.mono (by simp), fun z hz => .inl hz, fun z hz => .inl hz, fun z hz _ => hz⟩, st⟩
  by_cases hza : z = a
  · subst hza; rw [upd_same]; simp
  · rw [upd_ne hza]; exact en.al z hz
def isL (d : D) (k : Prop) : Prop := match d with
  | .lst true _ => k
  | _ => False
/-- xs.m(e): h tells the list behind it and the result -/
def wLm (i : Nat) (h : List D → List D → (List D → D → Prop) → Prop) (ws : List WD) : WD := fun ρ Q X => sl ρ i fun d0 => isL d0 (wL ws ρ (fun as ρ1 => cond (D.mayFreezeA as) (sl ρ1 i fun l => match l with
  | .lst true ds => h ds (D.freezeA as) fun ds' r => Q r (ρ1.set i (some (.lst true ds')))
  | _ => False) False) X)
def SimM (B : Bs) (r : V → List V → Hp → VK → Prop) (h : List D → List D → (List D → D → Prop) → Prop) : Prop := ∀ A H a vs ds as xs (Q : VK) Kd, (∀ z, A z → H z ≠ none) → H a = some (.lst vs) → RpA B A H ds vs [] → RpA B A H as xs [] → h ds as Kd →
  (∀ ds' d, Kd ds' d → ∀ vs' v, RpA B A H ds' vs' [] → Rp B A H d v [] → Q v (upd H a (.lst vs'))) → r (.ref a) xs H Q
theorem OutA.freeze {A A1 : Addr → Prop} {F F1 : List Addr} {H H1 : Hp} {σ : L2.St} {ρ ρ1 : Rho} {vs : List V} {ds : List D} {f : List Addr} (e : Env B A H pr σ ρ F) (o : OutA B A F H pr σ A1 F1 H1 ρ1 vs ds f) (m : D.mayFreezeA ds = true) : OutA B A F H pr σ (Less A1 f) F1 H1 ρ1 vs (D.freezeA ds) [] where
  step := ⟨o.step.keep, o.step.fo, fun a z => o.step.ao a z.1, fun a z n => ⟨o.step.ak a z n, fun hf => (o.src a hf).elim n (e.al a z)⟩⟩
  env := o.env.less f fun a ha hf => (List.nodup_append.mp o.nd).2.2 a hf a ha rfl
  val := RpA.freeze f ds vs f (fun _ h => h) m o.val
  nd := by simpa using o.env.nd
  src := by simp
theorem lift_lm {i : Nat} {r : V → List V → Hp → VK → Prop} {h : List D → List D → (List D → D → Prop) → Prop} {ws : List WD} (hs : SimM B r h) {σ : L2.St} {H : Hp} {Q : VK} (hh : liftE B pr W (wLm i h ws) σ H Q) : tBM B.K "list" r (tVar i) (tWs B pr W ws) σ H Q := by
  obtain ⟨A, F, ρ, Qd, Xd, e, hh, hq, hx⟩ := hh
  obtain ⟨d0, hi, hh⟩ := sl_iff.mp hh
  cases d0 <;> first | exact hh.elim | skip
  rename_i ow ds0
  cases ow with
  | false => exact hh.elim
  | true =>
    obtain ⟨a, vs, ev, q, _, _⟩ := e.lst hi
    refine ⟨.ref a, ev, .inl ⟨rfl, vs, SqL.of q⟩, lift_ws ws e hh hx fun as ρ1 hd A0 F0 H0 xs f0 o0 => ?_⟩
    cases m : D.mayFreezeA as with
    | false => rw [m] at hd; exact hd.elim
    | true =>
      rw [m] at hd
      have o1 := OutA.freeze e o0 m
      obtain ⟨l, hi1, hd⟩ := sl_iff.mp hd
      cases l <;> first | exact hd.elim | skip
      rename_i ow ds
      cases ow with
      | false => exact hd.elim
      | true =>
        obtain ⟨a1, vs1, ev1, q1, r1, back⟩ := o1.env.lst hi1
        rw [ev] at ev1
        cases ev1
        refine hs _ H0 a vs1 ds _ xs Q _ o1.env.al q1 r1 o1.val hd fun ds' d hk vs' v r' rv => ?_
        obtain ⟨e2, s2, st2⟩ := back ds' vs' r'
        exact hq _ _ hk _ F0 _ v [] (Out.seq e o1.step ⟨s2, e2, Rp.stay st2 _ _ _ (by simp) rv, by simpa using e2.nd, by simp⟩)
theorem de_lm {i : Nat} {id : String} {name : Str} {r : V → List V → Hp → VK → Prop} {h : List D → List D → (List D → D → Prop) → Prop} {ws : List WD} (hs : SimM B r h) (slot : Slot "list" name id) (hty : typeOf (.builtin id) = pure (.type "method_descriptor")) (hm : MtR X id r) (ho : PE X o (tVar i)) (ha : DWs B X pr W (e :: es) ws)
    (hbase : attributeBase o name X.env (eval o X.env) = eval o X.env := by rfl)
    (hfew : ((backTo cpos (starEach (e :: es) X.env)).all (fun x => !x.1) && (backToKw cpos (keywordEach [] X.env)).all (fun x => x.1.isSome)
      && decide ((e :: es).length + ([] : List Keyword).length + (if ([] : List Keyword).isEmpty then 0 else 1) < 30)) = true := by rfl)
    (hline : (apos.endLine == cpos.line) = true := by rfl) (hst : starEach (e :: es) X.env = (false, eval e X.env) :: starEach es X.env := by rfl) (hplain : (backTo cpos (starEach es X.env)).any (·.1) = false := by rfl) (hK : X.K = B.K := by rfl) :
    DE B X pr W (.Call (.Attribute o name apos) (e :: es) [] cpos) (wLm i h ws) := peW (pe_bmK PySem.F.plainAttrs_list slot hty hm ho ha hbase hfew hline hst hplain hK) fun _ _ _ hh => lift_lm hs hh
theorem rpa1 {A : Addr → Prop} {H : Hp} {d : D} {xs : List V} (h : RpA B A H [d] xs []) : ∃ x, xs = [x] ∧ Rp B A H d x [] := by
  rw [RpA] at h
  obtain ⟨x, vr, g, k, rfl, e, p, q⟩ := h
  rw [RpA] at q
  obtain ⟨rfl, rfl⟩ := q
  simp at e
  subst e
  exact ⟨x, rfl, p⟩
theorem rpa2 {A : Addr → Prop} {H : Hp} {d d2 : D} {xs : List V} (h : RpA B A H [d, d2] xs []) : ∃ x y, xs = [x, y] ∧ Rp B A H d x [] ∧ Rp B A H d2 y [] := by
  rw [RpA] at h
  obtain ⟨x, vr, g, k, rfl, e, p, q⟩ := h
  have := List.nil_eq_append_iff.mp e
  obtain ⟨rfl, rfl⟩ := this
  obtain ⟨y, rfl, p2⟩ := rpa1 q
  exact ⟨x, y, rfl, p, p2⟩
theorem rpa_of1 {A : Addr → Prop} {H : Hp} {d : D} {x : V} (h : Rp B A H d x []) : RpA B A H [d] [x] [] := by
  rw [RpA]; exact ⟨x, [], [], [], rfl, rfl, h, by rw [RpA]; exact ⟨rfl, rfl⟩⟩
def hApp : List D → List D → (List D → D → Prop) → Prop := fun ds as k => match as with
  | [d] => ds.length < 1000000 ∧ k (ds ++ [d]) .non
  | _ => False
def hExt : List D → List D → (List D → D → Prop) → Prop := fun ds as k => match as with
  | [.lst _ es] => ds.length + es.length ≤ 1000000 ∧ k (ds ++ es) .non
  | _ => False
theorem RpA.take {A : Addr → Prop} {H : Hp} : ∀ (ds : List D) (vs : List V) (n : Nat), RpA B A H ds vs [] → RpA B A H (ds.take n) (vs.take n) []
  | [], _, n, h => by rw [RpA] at h; obtain ⟨rfl, _⟩ := h; simp [RpA]
  | d :: ds, _, 0, h => by simp [RpA]
  | d :: ds, _, n + 1, h => by
    rw [RpA] at h
    obtain ⟨v, vr, g, k, rfl, e, p, q⟩ := h
    obtain ⟨rfl, rfl⟩ := List.nil_eq_append_iff.mp e
    rw [List.take_succ_cons, List.take_succ_cons, RpA]
    exact ⟨v, _, [], [], rfl, rfl, p, RpA.take ds vr n q⟩
theorem RpA.drop {A : Addr → Prop} {H : Hp} : ∀ (ds : List D) (vs : List V) (n : Nat), RpA B A H ds vs [] → RpA B A H (ds.drop n) (vs.drop n) []
  | [], _, n, h => by rw [RpA] at h; obtain ⟨rfl, _⟩ := h; simp [RpA]
  | d :: ds, vs, 0, h => by simpa using h
  | d :: ds, _, n + 1, h => by
    rw [RpA] at h
    obtain ⟨v, vr, g, k, rfl, e, p, q⟩ := h
    obtain ⟨rfl, rfl⟩ := List.nil_eq_append_iff.mp e
    rw [List.drop_succ_cons, List.drop_succ_cons]
    exact RpA.drop ds vr n q
theorem RpA.erase {A : Addr → Prop} {H : Hp} {ds : List D} {vs : List V} (n : Nat) (h : RpA B A H ds vs []) : RpA B A H (ds.eraseIdx n) (vs.eraseIdx n) [] := by
  rw [List.eraseIdx_eq_take_drop_succ, List.eraseIdx_eq_take_drop_succ]
  simpa using RpA.app _ _ _ _ _ _ (RpA.take ds vs n h) (RpA.drop ds vs (n + 1) h)
theorem RpA.setAt {A : Addr → Prop} {H : Hp} {d : D} {v : V} (p : Rp B A H d v []) : ∀ (ds : List D) (vs : List V) (n : Nat), RpA B A H ds vs [] → RpA B A H (ds.set n d) (vs.set n v) []
  | [], _, n, h => by rw [RpA] at h; obtain ⟨rfl, _⟩ := h; simp [RpA]
  | d0 :: ds, _, 0, h => by
    rw [RpA] at h
    obtain ⟨v0, vr, g, k, rfl, e, p0, q⟩ := h
    obtain ⟨rfl, rfl⟩ := List.nil_eq_append_iff.mp e
    rw [List.set_cons_zero, List.set_cons_zero, RpA]
    exact ⟨v, _, [], [], rfl, rfl, p, q⟩
  | d0 :: ds, _, n + 1, h => by
    rw [RpA] at h
    obtain ⟨v0, vr, g, k, rfl, e, p0, q⟩ := h
    obtain ⟨rfl, rfl⟩ := List.nil_eq_append_iff.mp e
    rw [List.set_cons_succ, List.set_cons_succ, RpA]
    exact ⟨v0, _, [], [], rfl, rfl, p0, RpA.setAt p ds vr n q⟩
def hPop : List D → List D → (List D → D → Prop) → Prop := fun ds as k => match as with
  | [.int i] => ds.length ≤ 1000000 ∧ onSome (ixN ds.length i) fun j => onSome ds[j]? fun d => k (ds.eraseIdx j) d
  | _ => False
theorem sm_pop : SimM B rPopAt hPop := by
  intro A H a vs ds as xs Q Kd al q r ra hh hq
  unfold hPop at hh
  split at hh
  · obtain ⟨x, rfl, p⟩ := rpa1 ra
    rw [Rp] at p
    obtain ⟨rfl, _⟩ := p
    have hl := RpA.len _ _ _ r
    obtain ⟨hz, hh⟩ := hh
    obtain ⟨j, hj, hh⟩ := onSome_iff.mp hh
    obtain ⟨d, hd, hh⟩ := onSome_iff.mp hh
    obtain ⟨v, g, ev, pv, sub⟩ := RpA.get ds vs [] j d r hd
    have : g = [] := List.eq_nil_iff_forall_not_mem.mpr fun a ha => by cases sub a ha
    subst this
    obtain ⟨h1, h2, h3, h4⟩ := L2.ixN_seq hj
    exact ⟨a, vs, _, j, v, rfl, rfl, q, by omega, by omega, by rw [hl]; exact h1, ev, hq _ _ hh _ _ (RpA.erase j r) pv⟩
  · exact hh.elim
def hIns : List D → List D → (List D → D → Prop) → Prop := fun ds as k => match as with
  | [.int i, d] => ds.length < 1000000 ∧ 0 ≤ i ∧ i < 1000000 ∧ k (ds.take i.toNat ++ [d] ++ ds.drop i.toNat) .non
  | _ => False
theorem sm_ins : SimM B rInsN hIns := by
  intro A H a vs ds as xs Q Kd al q r ra hh hq
  unfold hIns at hh
  split at hh
  · obtain ⟨x, y, rfl, p, p2⟩ := rpa2 ra
    rw [Rp] at p
    obtain ⟨rfl, _⟩ := p
    have hl := RpA.len _ _ _ r
    refine ⟨a, vs, _, y, rfl, rfl, q, sz_lt (by omega), hh.2.1, by omega, hq _ _ hh.2.2.2 _ _ ?_ rp_non⟩
    simpa using RpA.app _ _ _ _ _ _ (RpA.app _ _ _ _ _ _ (RpA.take ds vs _ r) (rpa_of1 p2)) (RpA.drop ds vs _ r)
  · exact hh.elim
def gSetL (i : Nat) (w : WD) : WG := fun d ρ k => cond d.isFz (sl ρ i fun d0 => isL d0 (w ρ (fun j ρ1 => sl ρ1 i fun l => onOwnL l fun ds => onInt j fun j => onSome (ixN ds.length j) fun n => k (ρ1.set i (some (.lst true (ds.set n d))))) fun _ _ => False)) False
end
end DL
namespace DL
open PySem PySem.Spec PyProof.Rows L2 PB
def wPart : Option WD → Rho → (Option Int → Rho → Prop) → XD → Prop
  | none, ρ, Q, _ => Q none ρ
  | some w, ρ, Q, X => w ρ (fun d ρ1 => match d with
    | .int i => Q (some i) ρ1
    | _ => False) X
def wSl (g : D → Option Int → Option Int → (D → Prop) → Prop) (lo hi : Option WD) : Opd → WD
  | .w w => fun ρ Q X => w ρ (fun d ρ1 => wPart lo ρ1 (fun l ρ2 => wPart hi ρ2 (fun h ρ3 => g d l h fun r => Q r ρ3) X) X) X
  | .v i => fun ρ Q X => sl ρ i fun _ => wPart lo ρ (fun l ρ2 => wPart hi ρ2 (fun h ρ3 => sl ρ3 i fun d => g d l h fun r => Q r ρ3) X) X
def tPartO (B : Bs) (pr : Nat → Option V) (W : WX) : Option WD → TO
  | none => tNoPart
  | some w => tPart (liftE B pr W w)
def cutD (xs : List D) (lo hi : Option Int) : List D := (xs.drop (HT.sIx xs.length 0 lo)).take (HT.sIx xs.length xs.length hi - HT.sIx xs.length 0 lo)
def gSl : D → Option Int → Option Int → (D → Prop) → Prop := fun d lo hi Q => match d with
  | .lst _ ds => Q (.lst true (cutD ds lo hi))
  | .tup ds => cond (D.isFzA ds) (Q (.tup (cutD ds lo hi))) False
  | .str z => z.length ≤ 1000000 ∧ Q (.str (cutS z lo hi))
  | _ => False
section
variable {B : Bs} {A A' A1 A2 A3 : Addr → Prop} {F F' F1 F2 F3 : List Addr} {H H' H1 H2 H3 : Hp} {pr : Nat → Option V} {σ σ' : L2.St} {ρ ρ1 ρ2 ρ3 : Rho} {v x y : V} {d d1 d2 : D} {f f1 f2 : List Addr} {W : WX} {Xd : XD}
theorem lift_part {w : Option WD} {Qd : Option Int → Rho → Prop} {QO : Option Int → Hp → Prop} (e : Env B A H pr σ ρ F) (h : wPart w ρ Qd Xd) (hx : ExOk B pr W A F H Xd) (hq : ∀ i ρ', Qd i ρ' → ∀ A' F' H', Step A F H A' F' H' → Env B A' H' pr σ ρ' F' → QO i H') : tPartO B pr W w σ H QO := by
  cases w with
  | none => exact hq none ρ h A F H (Step.refl A F H) e
  | some w =>
    refine ⟨A, F, ρ, _, Xd, e, h, fun d ρ1 h1 A1 F1 H1 x f1 o1 => ?_, hx⟩
    cases d <;> first | exact h1.elim | skip
    have r := o1.val
    rw [Rp] at r
    obtain ⟨rfl, _⟩ := r
    exact ⟨_, rfl, hq _ _ h1 _ _ _ o1.step o1.env⟩
def SimS (B : Bs) (r : V → Option Int → Option Int → Hp → VK → Prop) (g : D → Option Int → Option Int → (D → Prop) → Prop) : Prop := ∀ A H x d1 lo hi (Q : VK) (Qd : D → Prop), (∀ a, A a → H a ≠ none) → Pk B A H d1 x → g d1 lo hi Qd → (∀ d, Qd d → ∀ A' H' v f, Grow A H A' H' f → Rp B A' H' d v f → Q v H') → r x lo hi H Q
theorem lift_sl {r : V → Option Int → Option Int → Hp → VK → Prop} {g : D → Option Int → Option Int → (D → Prop) → Prop} {lo hi : Option WD} {oa : Opd} (hs : SimS B r g) {σ : L2.St} {H : Hp} {Q : VK} (h : liftE B pr W (wSl g lo hi oa) σ H Q) : tSl r (tOpd B pr W oa) (tPartO B pr W lo) (tPartO B pr W hi) σ H Q := by
  obtain ⟨A, F, ρ, Qd, Xd, e, h, hq, hx⟩ := h
  cases oa with
  | w wa =>
    refine ⟨A, F, ρ, _, Xd, e, h, fun d1 ρ1 h1 A1 F1 H1 x f1 o1 => ?_, hx⟩
    refine lift_part o1.env h1 (hx.shift e o1.step) fun l ρ2 h2 A2 F2 H2 s2 e2 => lift_part e2 h2 ((hx.shift e o1.step).shift o1.env s2) fun u ρ3 h3 A3 F3 H3 s3 e3 => ?_
    have s13 := s2.trans o1.env.al o1.env.fa s3
    exact hs A3 H3 x d1 l u Q (fun d => Qd d ρ3) e3.al (Out.over e o1 s13).1.pk h3 fun d q A' H' v f gr val => hq d ρ3 q _ _ _ _ _ (Out.seq e (o1.step.trans e.al e.fa s13) (Out.grow e3 gr val))
  | v i =>
    obtain ⟨d0, hi0, h1⟩ := sl_iff.mp h
    obtain ⟨x, g1, ex, _⟩ := e.at_ hi0
    refine ⟨x, ex, lift_part e h1 hx fun l ρ2 h2 A2 F2 H2 s2 e2 => lift_part e2 h2 (hx.shift e s2) fun u ρ3 h3 A3 F3 H3 s3 e3 => ?_⟩
    obtain ⟨d1, hi1, h3⟩ := sl_iff.mp h3
    obtain ⟨x', g1', ex', px'⟩ := e3.at_ hi1
    rw [ex] at ex'
    cases ex'
    exact hs A3 H3 x d1 l u Q (fun d => Qd d ρ3) e3.al px'.pk h3 fun d q A' H' v f gr val => hq d ρ3 q _ _ _ _ _ (Out.seq e (s2.trans e.al e.fa s3) (Out.grow e3 gr val))
theorem RpA.cut {ds : List D} {vs : List V} (lo hi : Option Int) (h : RpA B A H ds vs []) : RpA B A H (cutD ds lo hi) (cutV vs lo hi) [] := by
  have hl := RpA.len _ _ _ h
  unfold cutD cutV
  rw [hl]
  exact RpA.take _ _ _ (RpA.drop _ _ _ h)
end
section
variable {B : Bs} {X : Cx} {pr : Nat → Option V} {W : WX} {a b c e elt iter tg it o : Expr} {lo hi : Option Expr} {ifs : List Expr} {es : List Expr} {pos p p2 apos cpos : Pos} {oa ob oc : Opd} {os : List Opd} {wa wb wc : WD} {wl wh : Option WD}
def DPo (B : Bs) (X : Cx) (pr : Nat → Option V) (W : WX) (e : Option Expr) (w : Option WD) : Prop := PO X e (tPartO B pr W w)
theorem dpo_none : DPo B X pr W none none := po_none
theorem dpo_some (h : DE B X pr W e wa) : DPo B X pr W (some e) (some wa) := po_some h
theorem sim_sl : SimS B (fun x lo hi H Q => rSlL B.K x lo hi H Q ∨ rSlA B.K x lo hi H Q ∨ rSlS x lo hi H Q) gSl := by
  intro A H x d1 lo hi Q Qd al p1 hg hq
  unfold gSl at hg
  split at hg
  · obtain ⟨a, vs, rfl, q, r⟩ := p1
    exact .inl ⟨a, vs, rfl, SqL.of q, fun p hp => hq _ hg _ _ _ [p] (Grow.own (Keep.new hp) hp) (rp_newL hp (r.cut lo hi))⟩
  · obtain ⟨a, vs, g, rfl, q, r⟩ := p1
    rename_i ds
    cases m : D.isFzA ds with
    | false => simp [m] at hg
    | true =>
      simp only [m, cond_true] at hg
      have := RpA.fz _ _ _ m r
      subst this
      have hl := RpA.len _ _ _ r
      refine .inr (.inl ⟨a, vs, rfl, q, fun hw => ?_, fun _ p hp => hq _ hg _ _ _ [] (Grow.tup (Keep.new hp)) (rp_newT hp (r.cut lo hi))⟩)
      refine hq _ hg A H _ [] (Grow.same A H) ?_
      have e1 : cutD ds lo hi = ds := by unfold cutD; rw [← hl, hw.1, hw.2]; simp [hl]
      rw [e1, Rp]
      exact ⟨a, vs, rfl, q, r⟩
  · cases p1
    exact .inr (.inr ⟨_, rfl, sz_le hg.1, hq _ hg.2 A H _ [] (Grow.same A H) rp_str⟩)
  · exact hg.elim
theorem de_slice (he : DO B X pr W e oa) (hl : DPo B X pr W lo wl) (hu : DPo B X pr W hi wh) (hK : X.K = B.K := by rfl) : DE B X pr W (.Subscript e (.Slice lo hi none p2) pos) (wSl gSl wl wh oa) :=
  peW (pe_slice ((sl_listK hK).or ((show SlR X (rSlA B.K) by rw [← hK]; exact sl_tupA).or sl_str)) he hl hu) fun _ _ _ h => lift_sl sim_sl h
def D.flat : D → Bool
  | .non => true
  | .bl _ => true
  | .int _ => true
  | .str _ => true
  | _ => false
def gIn (k : Bool → D) : D → D → (D → Prop) → Prop := fun x y Q => match y with
  | .lst _ ds => cond (x.flat && ds.all D.flat) (Q (k (ds.any fun z => z.eqv x))) False
  | .tup ds => cond (x.flat && ds.all D.flat) (Q (k (ds.any fun z => z.eqv x))) False
  | .str z => (match x with
    | .str ⟨cs⟩ => (match cs.toList with
      | [c] => Q (k (decide (c ∈ z.cps.toList)))
      | _ => False)
    | _ => False)
  | _ => False
theorem flat_pk {A : Addr → Prop} {H : Hp} {d : D} {v : V} (m : d.flat = true) (h : Pk B A H d v) : flatV v = true ∧ SV d v := by
  cases d <;> first | (cases m; done) | (cases h; exact ⟨rfl, rfl⟩)
theorem sv_eqv {d e : D} {v w : V} (h : SV d v) (h2 : SV e w) : eqV v w = D.eqv d e := by
  cases d <;> cases e <;> first | exact h.elim | exact h2.elim | (cases h; cases h2; simp [eqV, D.eqv, D.py, PyData.eqv]; done) | (cases h; cases h2; simp [eqV, D.eqv, D.py, PyData.eqv]; rename_i i j; rw [Bool.eq_iff_iff]; simp)
theorem flat_kids {A : Addr → Prop} {H : Hp} {x : D} {vx : V} (hx : SV x vx) : ∀ (ds : List D) (vs : List V) (g : List Addr), ds.all D.flat = true → RpA B A H ds vs g → vs.all flatV = true ∧ inV vx vs = ds.any fun z => z.eqv x
  | [], _, _, _, h => by rw [RpA] at h; obtain ⟨rfl, _⟩ := h; exact ⟨rfl, rfl⟩
  | d :: ds, _, _, m, h => by
    rw [RpA] at h
    obtain ⟨v, vr, g1, g2, rfl, rfl, p, q⟩ := h
    rw [List.all_cons, Bool.and_eq_true] at m
    obtain ⟨a1, a2⟩ := flat_pk m.1 p.pk
    obtain ⟨b1, b2⟩ := flat_kids hx ds vr g2 m.2 q
    refine ⟨by rw [List.all_cons, a1, b1]; rfl, ?_⟩
    unfold inV at b2 ⊢
    rw [List.any_cons, List.any_cons, b2, sv_eqv a2 hx]
theorem od_inB {f} {r1 r2 : R2} {k : Bool → Bool} (h1 : OpR X f r1) (h2 : OpR X f r2) (e1 : ∀ x p xs H (Q : VK), (SqL B.K H p xs ∨ SqT B.K H p xs) → flatV x = true → xs.all flatV = true → Q (.bl (k (inV x xs))) H → r1 x (.ref p) H Q)
    (e2 : ∀ (c : Nat) (z : Str) H (Q : VK), Q (.bl (k (decide (c ∈ z.cps.toList)))) H → r2 (.str ⟨#[c]⟩) (.str z) H Q) : OpD B X f (gIn fun b => .bl (k b)) := by
  refine ⟨_, OpRor h1 h2, fun A H x y d1 d2 Q Qd al p1 p2 hg hq => ?_⟩
  unfold gIn at hg
  split at hg
  · rename_i o ds
    obtain ⟨a, vs, rfl, q, r⟩ := p2
    cases m : (d1.flat && ds.all D.flat) with
    | false => rw [m] at hg; exact hg.elim
    | true =>
      rw [m] at hg
      rw [Bool.and_eq_true] at m
      obtain ⟨a1, a2⟩ := flat_pk m.1 p1
      obtain ⟨b1, b2⟩ := flat_kids a2 ds vs _ m.2 r
      exact .inl (e1 x a vs H Q (.inl (SqL.of q)) a1 b1 (by rw [b2]; exact hq _ hg A H _ [] (Grow.same A H) rp_bl))
  · rename_i ds
    obtain ⟨a, vs, g, rfl, q, r⟩ := p2
    cases m : (d1.flat && ds.all D.flat) with
    | false => rw [m] at hg; exact hg.elim
    | true =>
      rw [m] at hg
      rw [Bool.and_eq_true] at m
      obtain ⟨a1, a2⟩ := flat_pk m.1 p1
      obtain ⟨b1, b2⟩ := flat_kids a2 ds vs _ m.2 r
      exact .inl (e1 x a vs H Q (.inr q) a1 b1 (by rw [b2]; exact hq _ hg A H _ [] (Grow.same A H) rp_bl))
  · split at hg
    · split at hg
      · rename_i z _ cs _ c hc
        cases p1
        cases p2
        have : cs = #[c] := by rw [← Array.toList_inj]; exact hc
        subst this
        exact .inr (e2 c z H Q (hq _ hg A H _ [] (Grow.same A H) rp_bl))
      · exact hg.elim
    · exact hg.elim
  · exact hg.elim
theorem od_in (hK : X.K = B.K := by rfl) : OpD B X (compareOp .In) (gIn fun b => .bl b) :=
  od_inB (k := fun b => b) (op_inK hK) op_inS (fun x p xs H Q h1 h2 h3 q => ⟨p, xs, rfl, h1, h2, h3, by rw [if_neg (by simp)]; exact q⟩) (fun c z H Q q => ⟨c, z, rfl, rfl, q⟩)
theorem od_notIn (hK : X.K = B.K := by rfl) : OpD B X (compareOp .NotIn) (gIn fun b => .bl (!b)) :=
  od_inB (k := fun b => !b) (show OpR X (compareOp .NotIn) (rIn B.K true) by rw [← hK]; exact op_notIn_seq) op_notInS (fun x p xs H Q h1 h2 h3 q => ⟨p, xs, rfl, h1, h2, h3, by rw [if_pos rfl]; exact q⟩) (fun c z H Q q => ⟨c, z, rfl, rfl, q⟩)
def D.tyN : D → String
  | .non => "NoneType"
  | .bl _ => "bool"
  | .int _ => "int"
  | .str _ => "str"
  | .lst _ _ => "list"
  | .tup _ => "tuple"
  | _ => ""
def isTy (t n : String) : Bool := t == n || (t == "bool" && n == "int")
def tyOk (n : String) : Bool := ["int", "bool", "str", "list", "tuple"].contains n
structure IsiAll (K : PySem.W.Frag) (cs : List Str) : Prop where
  i : ∀ c ∈ cs, IsiC K (He.ga K c)
  x : ∀ c ∈ cs, ∀ c' ∈ cs, PySem.W.kitOne K (.ref (He.ga K c)) (.ref (He.ga K c')) = some (decide (c = c'))
def isxB (cs : List Str) (K : PySem.W.Frag) : Bool := cs.all fun c => isiB c K && cs.all fun c' => decide (PySem.W.kitOne K (.ref (He.ga K c)) (.ref (He.ga K c')) = some (decide (c = c')))
theorem isx_of {cs : List Str} {K : PySem.W.Frag} (h : isxB cs K = true) : IsiAll K cs := by
  have h := List.all_eq_true.mp h
  refine ⟨fun c hc => isi_of (He.ba (h c hc)).1, fun c hc c' hc' => of_decide_eq_true (List.all_eq_true.mp (He.ba (h c hc)).2 c' hc')⟩
def isiD (cs : List Str) (d t : D) (k : Bool → Prop) : Prop := match t with
  | .ty n => tyOk n = true ∧ (match d with
    | .ins _ c _ _ => cs.contains c = true ∧ k false
    | d => (tyOk d.tyN || d.tyN == "NoneType") = true ∧ k (isTy d.tyN n))
  | .fn c' => cs.contains c' = true ∧ (match d with
    | .ins _ c _ _ => cs.contains c = true ∧ k (decide (c = c'))
    | d => (tyOk d.tyN || d.tyN == "NoneType") = true ∧ k false)
  | _ => False
theorem kit_tab : ∀ t ∈ ["int", "bool", "str", "list", "tuple", "NoneType"], ∀ n ∈ ["int", "bool", "str", "list", "tuple"], kitB t n = some (isTy t n) := by decide +kernel
theorem tyOk_mem {n : String} (h : tyOk n = true) : n ∈ ["int", "bool", "str", "list", "tuple"] := by simpa [tyOk] using h
theorem tyN_mem {n : String} (h : (tyOk n || n == "NoneType") = true) : n ∈ ["int", "bool", "str", "list", "tuple", "NoneType"] := by
  rw [Bool.or_eq_true] at h
  rcases h with h | h
  · have := tyOk_mem h; simp at this ⊢; rcases this with h | h | h | h | h <;> simp [h]
  · simp at h; simp [h]
theorem ty_pk {A : Addr → Prop} {H : Hp} {d : D} {v : V} (h : (tyOk d.tyN || d.tyN == "NoneType") = true) (p : Pk B A H d v) : TyX B.K H v (.type d.tyN) := by
  cases d with
  | non => cases p; exact .base .non
  | bl _ => cases p; exact .base (.bl _)
  | int _ => cases p; exact .base (.int _)
  | str _ => cases p; exact .base (.str _)
  | tup ds =>
    obtain ⟨a, vs, g, rfl, q, r⟩ := p
    rcases q with (q | ⟨o, q⟩) | ⟨o, its, n, q, q2, _⟩
    · exact .base (.tup q)
    · exact .fTuple q
    · exact .kTuple q q2
  | lst _ _ =>
    obtain ⟨a, vs, rfl, q, r⟩ := p
    exact .base (.lst q)
  | _ => simp [D.tyN, tyOk] at h
theorem sim_isi {cs : List Str} (I : IsiAll B.K cs) {A : Addr → Prop} {H : Hp} {d t : D} {x c : V} {Qd : Bool → Prop} (h : isiD cs d t Qd) (p : Pk B A H d x) (pc : Pk B A H t c) : ∃ tt u b, ClsV c u ∧ TyX B.K H x tt ∧ PySem.W.kitOne B.K tt u = some b ∧ Qd b := by
  unfold isiD at h
  split at h
  · rename_i n
    cases pc
    obtain ⟨hn, h⟩ := h
    split at h
    · rename_i ow c' ns ds
      obtain ⟨a, dx, vs, g, rfl, q, ql, r⟩ := p
      have ic := I.i c' (by simpa using h.1)
      exact ⟨_, _, false, .ty n, .base (.ins q ic.ic.cl ic.ic.ha ic.ic.hn ic.ic.htk ic.ic.hm), ic.on n (tyOk_mem hn), h.2⟩
    · exact ⟨_, _, _, .ty n, ty_pk h.1 p, kit_ty (kit_tab _ (tyN_mem h.1) _ (tyOk_mem hn)), h.2⟩
  · rename_i c'
    cases pc
    obtain ⟨hn, h⟩ := h
    have hc' : c' ∈ cs := by simpa using hn
    split at h
    · rename_i ow c2 ns ds
      obtain ⟨a, dx, vs, g, rfl, q, ql, r⟩ := p
      have h2 : c2 ∈ cs := by simpa using h.1
      have ic := I.i c2 h2
      exact ⟨_, _, _, .own _, .base (.ins q ic.ic.cl ic.ic.ha ic.ic.hn ic.ic.htk ic.ic.hm), I.x c2 h2 c' hc', h.2⟩
    · exact ⟨_, _, false, .own _, ty_pk h.1 p, (I.i c' hc').no _ (tyN_mem h.1), h.2⟩
  · exact h.elim
def gIsi (cs : List Str) : List D → (D → Prop) → Prop := fun as Q => match as with
  | [d, t] => isiD cs d t fun b => Q (.bl b)
  | _ => False
theorem cd_isi {cs : List Str} (I : IsiAll B.K cs) (hK : X.K = B.K := by rfl) : CallD B X (.builtin "isinstance") (gIsi cs) := by
  refine ⟨_, call_isiK' hK, fun A H xs ds Q Qd al p1 hg hq => ?_⟩
  unfold gIsi at hg
  split at hg
  · obtain ⟨x, y, rfl, p, p2⟩ := pka2 p1
    obtain ⟨tt, u, b, h1, h2, h3, h4⟩ := sim_isi I hg p p2
    exact ⟨x, y, tt, u, b, rfl, h1, h2, h3, hq _ h4 A H _ [] (Grow.same A H) rp_bl⟩
  · exact hg.elim
def tTys : List String → TA
  | [] => tNil
  | n :: ns => tCons (tC (.ty n)) (tTys ns)
theorem tys_read : ∀ (ns : List String) {σ : L2.St} {H : Hp} {Q : List V → Hp → Prop}, Q (ns.map V.ty) H → tTys ns σ H Q
  | [], _, _, _, h => h
  | n :: ns, σ, H, Q, h => tys_read ns (Q := fun xs H2 => Q (V.ty n :: xs) H2) h
theorem pa_tys_nil : PA X [] (tTys []) := pa_nil
theorem pa_tys_cons {n : String} {ns : List String} (h : PE X e (tC (.ty n))) (hr : PA X es (tTys ns)) (hs : starEach (e :: es) X.env = (false, eval e X.env) :: starEach es X.env := by rfl) : PA X (e :: es) (tTys (n :: ns)) := pa_cons h hr hs
def gIsiT (cs : List Str) (ns : List String) : D → (D → Prop) → Prop := fun d Q => ns.all tyOk = true ∧ (match d with
  | .ins _ c _ _ => cs.contains c = true ∧ Q (.bl false)
  | d => (tyOk d.tyN || d.tyN == "NoneType") = true ∧ Q (.bl (ns.any fun n => isTy d.tyN n)))
theorem kitAny_cons {K : PySem.W.Frag} {t u : Value} {us : List Value} {b c : Bool} (h1 : PySem.W.kitOne K t u = some b) (h2 : PySem.W.kitAny K t us = some c) : PySem.W.kitAny K t (u :: us) = some (b || c) := by
  cases b <;> simp [PySem.W.kitAny, h1, h2]
theorem tys_kit {tt : Value} {F : String → Bool} (hF : ∀ n, tyOk n = true → PySem.W.kitOne B.K tt (.type n) = some (F n)) : ∀ (ns : List String), ns.all tyOk = true → PySem.W.kitAny B.K tt (ns.map Value.type) = some (ns.any F)
  | [], _ => rfl
  | n :: ns, hk => by
    rw [List.all_cons, Bool.and_eq_true] at hk
    rw [List.map_cons, List.any_cons]
    exact kitAny_cons (hF n hk.1) (tys_kit hF ns hk.2)
theorem cls_tys : ∀ ns : List String, Paired ClsV (ns.map V.ty) (ns.map Value.type)
  | [] => .nil
  | n :: ns => .cons (.ty n) (cls_tys ns)
theorem sim_isiT {cs : List Str} (I : IsiAll B.K cs) {ns : List String} (hn : ns.length ≤ 1000) : Sim1 B (fun x H Q => (ns.map V.ty).length ≤ sizeLine ∧ ∀ p, H p = none → rIsiT B.K [x, .ref p] (upd H p (.tup (ns.map V.ty))) Q) (gIsiT cs ns) := by
  intro A H x d Q Qd al p hg hq
  refine ⟨sz_le (by rw [List.length_map]; omega), fun q hqn => ?_⟩
  obtain ⟨hk, hg⟩ := hg
  have gr : Grow A H A (upd H q (.tup (ns.map V.ty))) [] := Grow.tup (Keep.new hqn)
  have key : ∃ tt b, TyX B.K (upd H q (.tup (ns.map V.ty))) x tt ∧ Qd (.bl b) ∧ PySem.W.kitAny B.K tt (ns.map Value.type) = some b := by
    have dflt : Pk B A (upd H q (.tup (ns.map V.ty))) d x → (tyOk d.tyN || d.tyN == "NoneType") = true ∧ Qd (.bl (ns.any fun n => isTy d.tyN n)) → ∃ tt b, TyX B.K (upd H q (.tup (ns.map V.ty))) x tt ∧ Qd (.bl b) ∧ PySem.W.kitAny B.K tt (ns.map Value.type) = some b := fun p' hg => ⟨_, _, ty_pk hg.1 p', hg.2, tys_kit (B := B) (F := fun n => isTy d.tyN n) (fun n hn => kit_ty (kit_tab _ (tyN_mem hg.1) _ (tyOk_mem hn))) ns hk⟩
    cases d with
    | ins ow c ns2 ds2 =>
      obtain ⟨a2, dx, vs2, g2, rfl, q2, ql, r2⟩ := p
      have ic := I.i c (by simpa using hg.1)
      refine ⟨_, false, .base (.ins (gr.keep.at_ _ _ (by simp) q2) ic.ic.cl ic.ic.ha ic.ic.hn ic.ic.htk ic.ic.hm), hg.2, ?_⟩
      rw [tys_kit (B := B) (F := fun _ => false) (fun n hn => ic.on n (tyOk_mem hn)) ns hk]
      congr 1
      simp
    | non => exact dflt p hg
    | bl _ => exact dflt p hg
    | int _ => exact dflt p hg
    | str _ => exact dflt p hg
    | tup ds =>
      obtain ⟨a, vs, g, rfl, q1, r⟩ := p
      exact dflt ⟨a, vs, g, rfl, gr.keep.seqT q1, RpA.stay gr.stays _ _ _ (by simp) r⟩ hg
    | lst _ _ =>
      obtain ⟨a, vs, rfl, q1, r⟩ := p
      exact dflt ⟨a, vs, rfl, gr.keep.at_ _ _ (by simp) q1, RpA.stay gr.stays _ _ _ (by simp) r⟩ hg
    | _ => simp [D.tyN, tyOk] at hg
  obtain ⟨tt, b, h1, h2, h4⟩ := key
  exact ⟨x, q, _, tt, _, b, rfl, upd_same, cls_tys ns, h1, h4, hq _ h2 _ _ _ [] gr rp_bl⟩
theorem de_isiT {cs : List Str} {ns : List String} {x1} {p3 : Pos} (I : IsiAll B.K cs) (hg : Gl X "isinstance") (hm : X.mg "isinstance" = none) (ho : DO B X pr W e oa) (ht : PA X es (tTys ns)) (hn : ns.length ≤ 1000 := by decide) (hK : X.K = B.K := by rfl)
    (he : starEach [e, .Tuple es x1 p3] X.env = (false, eval e X.env) :: starEach [.Tuple es x1 p3] X.env := by rfl) (he2 : starEach [.Tuple es x1 p3] X.env = (false, eval (.Tuple es x1 p3) X.env) :: starEach [] X.env := by rfl) (hpl : (backTo pos (starEach [.Tuple es x1 p3] X.env)).any (·.1) = false := by rfl) :
    DE B X pr W (.Call (.Name "isinstance" p) [e, .Tuple es x1 p3] [] pos) (wUn (gIsiT cs ns) oa) := by
  refine peW (pe_callB (show CallR X (.builtin "isinstance") (rIsiT B.K) by rw [← hK]; exact call_isiT) hg hm (by decide +kernel) (pa_cons ho (pa_cons (pe_tup ht) pa_nil he2) he) (by decide) (by decide) he hpl) fun σ H Q h => ?_
  have h2 := lift_un (sim_isiT I hn) h
  have mono : ∀ {o : Opd} {σ : L2.St} {H : Hp} {Q Q' : VK}, tOpd B pr W o σ H Q → (∀ v H, Q v H → Q' v H) → tOpd B pr W o σ H Q' := fun {o σ H Q Q'} h m => by
    cases o with
    | w w => obtain ⟨A, F, ρ, Qd, Xd, e, h, hq, hx⟩ := h; exact ⟨A, F, ρ, Qd, Xd, e, h, fun d ρ' hd A' F' H' v f o => m _ _ (hq d ρ' hd A' F' H' v f o), hx⟩
    | v i => obtain ⟨v, e, h⟩ := h; exact ⟨v, e, m _ _ h⟩
  exact mono h2 fun x H1 hq => tys_read ns ⟨hq.1, fun p hp => hq.2 p hp⟩
def argD (a : Arg) (ρ : Rho) (k : D → Prop) : Prop := match a with
  | .z d => k d
  | .s i => sl ρ i k
def isC (c : Str) (d : D) : Prop := match d with
  | .ins _ c' _ _ => c' = c
  | _ => False
/-- x in y, y own -/
def wInOwn (c : Str) (s : DSp) (neg : Bool) (oa ob : Opd) : WD := fun ρ Q X => wArgs [oa, ob] ρ (fun as ρ1 => match as with
  | [x, y] => argD y ρ1 (isC c) ∧ callK s [] [y, x] ρ1 (fun r ρ2 => match r with
      | .bl b => Q (.bl (if neg then !b else b)) ρ2
      | _ => False) X
  | _ => False) X
/-- x op y, both own (or y an int) -/
def isCI (c : Str) (d : D) : Prop := match d with
  | .ins _ c' _ _ => c' = c
  | .int _ => True
  | _ => False
def wOwn (c : Str) (s : DSp) (oa ob : Opd) : WD := fun ρ Q X => wArgs [oa, ob] ρ (fun as ρ1 => match as with
  | [x, y] => argD x ρ1 (isC c) ∧ argD y ρ1 (isCI c) ∧ callK s [] [x, y] ρ1 Q X
  | _ => False) X
def wiEnum (w : WD) : WI := fun ρ Q X => w ρ (fun d ρ1 => match d with
  | .lst _ ds => Q (ds.zipIdx.map fun p => .tup [.int (p.2 : Nat), p.1]) ρ1
  | _ => False) X
end
end DL
namespace DL
open PySem PySem.Spec PyProof.Rows L2 PB
section
variable {B : Bs} {X : Cx} {pr : Nat → Option V} {W : WX} {a b c e elt iter tg it o : Expr} {ifs : List Expr} {es : List Expr} {pos p p2 apos cpos : Pos} {oa ob oc : Opd} {os : List Opd} {wa wb wc : WD} {ws : List WD} {st : Stmt}
theorem rpa0 : ∀ (A : Addr → Prop) (H : Hp), RpA B A H [] [] [] := fun _ _ => by rw [RpA]; exact ⟨rfl, rfl⟩
def sPar (is : List Nat) (ws : List WD) : WS := fun E ρ => wL ws ρ (fun ds ρ1 => ds.length = is.length ∧ E.nx ((is.zip ds).foldl (fun r q => r.set q.1 (some q.2)) ρ1)) E.xx
/-- several stores one behind another -/
theorem Env.puts {A : Addr → Prop} {H : Hp} : ∀ (is : List Nat) (ds : List D) (vs : List V) (f : List Addr) (σ : L2.St) (ρ : Rho) (F : List Addr), Env B A H pr σ ρ F → RpA B A H ds vs f → (f ++ F).Nodup → is.all (fun i => (pr i).isNone) = true → ds.length = is.length →
    ∃ F', (∀ a ∈ F', a ∈ f ++ F) ∧ Env B A H pr ((is.zip vs).foldl (fun r q => r.set q.1 (some q.2)) σ) ((is.zip ds).foldl (fun r q => r.set q.1 (some q.2)) ρ) F'
  | [], ds, vs, f, σ, ρ, F, e, r, nd, hp, hl => ⟨F, fun a ha => List.mem_append_right _ ha, by simpa using e⟩
  | i :: is, [], vs, f, σ, ρ, F, e, r, nd, hp, hl => by simp at hl
  | i :: is, d :: ds, _, _, σ, ρ, F, e, r, nd, hp, hl => by
    rw [RpA] at r
    obtain ⟨v, vr, g, k, rfl, rfl, p, q⟩ := r
    rw [List.all_cons, Bool.and_eq_true] at hp
    have n0 := List.nodup_append.mp nd
    have n1 := List.nodup_append.mp n0.1
    have n2 : (g ++ F).Nodup := List.nodup_append.mpr ⟨n1.1, n0.2.1, fun a ha b hb => n0.2.2 a (List.mem_append_left _ ha) b hb⟩
    obtain ⟨F1, s1, e1⟩ := e.put (by simpa using hp.1) p n2
    have n3 : (k ++ F1).Nodup := List.nodup_append.mpr ⟨n1.2.1, e1.nd, fun a ha b hb z => by
      subst z
      rcases List.mem_append.mp (s1 a hb) with w | w
      · exact n1.2.2 a w a ha rfl
      · exact n0.2.2 a (List.mem_append_right _ ha) a w rfl⟩
    obtain ⟨F2, s2, e2⟩ := Env.puts is ds vr k _ _ F1 e1 q n3 hp.2 (by simpa using hl)
    refine ⟨F2, fun a ha => ?_, by simpa using e2⟩
    rcases List.mem_append.mp (s2 a ha) with w | w
    · exact List.mem_append_left _ (List.mem_append_right _ w)
    · rcases List.mem_append.mp (s1 a w) with w | w
      · exact List.mem_append_left _ (List.mem_append_left _ w)
      · exact List.mem_append_right _ w
theorem ds_par2 {i0 i1 : Nat} {x y : Str} {px py pt : Pos} {kt k2 pt2} (hc : X.calm = true) (hN : X.N.Nodup) (ha : DWs B X pr W [a, b] ws) (hi : X.N[i0]? = some x := by rfl) (hj : X.N[i1]? = some y := by rfl) (hij : i0 ≠ i1 := by decide)
    (hx : X.env.scope.names.lookup x = some .local := by rfl) (hy : X.env.scope.names.lookup y = some .local := by rfl)
    (hw : swappedStores [.Tuple [.Name x px, .Name y py] kt pt] (.Tuple [a, b] k2 pt2) X.env = pure (some [x, y]) := by rfl)
    (hs : swapsWithSole [.Tuple [.Name x px, .Name y py] kt pt] (.Tuple [a, b] k2 pt2) pos.line X.env = pure false := by rfl) (hp : [i0, i1].all (fun i => (pr i).isNone) = true := by rfl) :
    DS B X pr W (.Assign [.Tuple [.Name x px, .Name y py] kt pt] (.Tuple [a, b] k2 pt2) pos) (sPar [i0, i1] ws) := by
  refine psW (ps_par hc hN hi hj hij hx hy ha hw hs) fun D σ H ⟨A, F, ρ, Ed, e, h, k⟩ => lift_ws ws e h k.xx fun ds ρ1 hd A1 F1 H1 vs f o => ?_
  obtain ⟨hl, hd⟩ := hd
  have hv := RpA.len _ _ _ o.val
  obtain ⟨v, w, rfl⟩ : ∃ v w, vs = [v, w] := by
    match vs, hv.trans hl with
    | [v, w], _ => exact ⟨v, w, rfl⟩
  obtain ⟨F2, s2, e2⟩ := Env.puts [i0, i1] ds [v, w] f σ ρ1 F1 o.env o.val o.nd hp hl
  exact ⟨v, w, rfl, k.nx _ hd _ A1 F2 H1 ⟨o.step.keep, fun a ha => (List.mem_append.mp (s2 a ha)).elim (o.src a) (o.step.fo a), o.step.ao, o.step.ak⟩ e2⟩
theorem ds_par3 {i0 i1 i2 : Nat} {x y z : Str} {px py pz pt : Pos} {kt k2 pt2} (hc : X.calm = true) (hN : X.N.Nodup) (ha : DWs B X pr W [a, b, c] ws) (hi : X.N[i0]? = some x := by rfl) (hj : X.N[i1]? = some y := by rfl) (hl : X.N[i2]? = some z := by rfl) (hij : i0 ≠ i1 := by decide) (hil : i0 ≠ i2 := by decide) (hjl : i1 ≠ i2 := by decide)
    (hx : X.env.scope.names.lookup x = some .local := by rfl) (hy : X.env.scope.names.lookup y = some .local := by rfl) (hz : X.env.scope.names.lookup z = some .local := by rfl)
    (hw : swappedStores [.Tuple [.Name x px, .Name y py, .Name z pz] kt pt] (.Tuple [a, b, c] k2 pt2) X.env = pure (some [x, y, z]) := by rfl)
    (hs : swapsWithSole [.Tuple [.Name x px, .Name y py, .Name z pz] kt pt] (.Tuple [a, b, c] k2 pt2) pos.line X.env = pure false := by rfl) (hp : [i0, i1, i2].all (fun i => (pr i).isNone) = true := by rfl) :
    DS B X pr W (.Assign [.Tuple [.Name x px, .Name y py, .Name z pz] kt pt] (.Tuple [a, b, c] k2 pt2) pos) (sPar [i0, i1, i2] ws) := by
  refine psW (ps_par3 hc hN hi hj hl hij hil hjl hx hy hz ha hw hs) fun D σ H ⟨A, F, ρ, Ed, e, h, k⟩ => lift_ws ws e h k.xx fun ds ρ1 hd A1 F1 H1 vs f o => ?_
  obtain ⟨hl, hd⟩ := hd
  have hv := RpA.len _ _ _ o.val
  obtain ⟨v, w, u, rfl⟩ : ∃ v w u, vs = [v, w, u] := by
    match vs, hv.trans hl with
    | [v, w, u], _ => exact ⟨v, w, u, rfl⟩
  obtain ⟨F2, s2, e2⟩ := Env.puts [i0, i1, i2] ds [v, w, u] f σ ρ1 F1 o.env o.val o.nd hp hl
  exact ⟨v, w, u, rfl, k.nx _ hd _ A1 F2 H1 ⟨o.step.keep, fun a ha => (List.mem_append.mp (s2 a ha)).elim (o.src a) (o.step.fo a), o.step.ao, o.step.ak⟩ e2⟩
def gNeg : D → (D → Prop) → Prop := fun d Q => match d with
  | .int i => Q (.int (-i))
  | _ => False
theorem sim_neg : Sim1 B (rU fun i => .int (-i)) gNeg := by
  intro A H x d Q Qd al p hg hq
  cases d <;> first | exact hg.elim | skip
  cases p
  exact ⟨_, rfl, hq _ hg A H _ [] (Grow.same A H) rp_int⟩
/-- a op b op' c -/
def wChain (g g' : D → D → (D → Prop) → Prop) (wa wb wc : WD) : WD := fun ρ Q X => wa ρ (fun d1 ρ1 => wb ρ1 (fun d2 ρ2 => g d1 d2 fun r => match r with
  | .bl k => if k = true then wc ρ2 (fun d3 ρ3 => g' d2 d3 fun d => Q d ρ3) X else Q (.bl false) ρ2
  | _ => False) X) X
/-- is True, is False -/
def gIsB (k : Bool → D) : D → D → (D → Prop) → Prop := fun d e Q => match d, e with
  | .bl a, .bl b => Q (k (decide (a = b)))
  | _, _ => False
theorem od_isB : OpD B X (compareOp .Is) (gIsB fun b => .bl b) := by
  refine ⟨_, op_isBl, fun A H x y d1 d2 Q Qd al p1 p2 hg hq => ?_⟩
  cases d1 <;> cases d2 <;> first | exact hg.elim | skip
  cases p1
  cases p2
  exact ⟨_, _, rfl, rfl, hq _ hg A H _ [] (Grow.same A H) rp_bl⟩
end
section
variable {B : Bs}
/-- _law_draw -/
def dspDraw : DSp := fun ds Q _ => match ds with
  | [.spring n, .int many] => 0 < many ∧ many.natAbs < 2 ^ 9000 ∧ n < 10000000 ∧ ∀ r : Int, 0 ≤ r → r < many → Q (.int r) [.spring (n + 1), .int many]
  | _ => False
theorem draw_sp (vs : List V) (H : Hp) (Q : VK) (E : XK) (h : spOf B dspDraw vs H Q E) : spDraw vs H Q E := by
  obtain ⟨A, F, ds, Qd, Xd, p, nd, al, h, hq, hx⟩ := h
  unfold dspDraw at h
  split at h
  · rename_i n many
    rw [RpA] at p
    obtain ⟨v, vr, g, k, rfl, rfl, p1, p2⟩ := p
    rw [Rp] at p1
    obtain ⟨S, l, rfl, rfl, aS, al', st⟩ := p1
    rw [RpA] at p2
    obtain ⟨v2, vr2, g2, k2, rfl, rfl, p3, p4⟩ := p2
    rw [Rp] at p3
    obtain ⟨rfl, rfl⟩ := p3
    rw [RpA] at p4
    obtain ⟨rfl, rfl⟩ := p4
    simp only [List.append_nil] at nd hq hx
    refine ⟨S, l, n, many, rfl, h.1, h.2.1, h.2.2.1, st, fun H' r kp st' h0 h1 => ?_⟩
    refine hq _ _ (h.2.2.2 r h0 h1) A [S, l] H' (.int r) [] ⟨kp, fun a ha => .inl ha, fun a ha => .inl ha, fun a ha _ => ha⟩ ?_ rp_int (by simpa using nd) (fun a ha => ?_) (by simp)
    · rw [RpA]
      refine ⟨_, _, [S, l], [], rfl, rfl, ?_, rpa_of1 rp_int⟩
      rw [Rp]
      exact ⟨S, l, rfl, rfl, aS, al', st'⟩
    · by_cases hm : a ∈ [S, l]
      · obtain ⟨_, _, _, _, _, s1, s2, _⟩ := st'.ex
        simp at hm
        rcases hm with rfl | rfl
        · rw [s1]; simp
        · rw [s2]; simp
      · cases e : H a with
        | none => exact (al a ha e).elim
        | some o => rw [kp.at_ a o hm e]; simp
  · exact h.elim
def dspStart : DSp := fun ds Q _ => match ds with
  | [.script] => Q (.spring 0) [.script]
  | _ => False
theorem start_sp (vs : List V) (H : Hp) (Q : VK) (E : XK) (h : spOf B dspStart vs H Q E) : ∃ (a : Addr) (ns : List Int), vs = [.ref a] ∧ SqL B.K H a (ns.map V.int) ∧ ns.length ≤ 63 ∧ ∀ S l H', H S = none → H l = none → Keep [] H H' → Stm S l 0 H' → Q (.ref S) H' := by
  obtain ⟨A, F, ds, Qd, Xd, p, nd, al, h, hq, hx⟩ := h
  unfold dspStart at h
  split at h
  · have p0 := p
    rw [RpA] at p
    obtain ⟨v, vr, g, k, rfl, rfl, p1, p2⟩ := p
    rw [Rp] at p1
    obtain ⟨⟨a, ns, rfl, hl, sq⟩, rfl⟩ := p1
    rw [RpA] at p2
    obtain ⟨rfl, rfl⟩ := p2
    refine ⟨a, ns, rfl, ?_, hl, fun S l H' hS hl0 kp st => ?_⟩
    · rcases sq with sq | sq
      · exact .inl sq.1
      · rcases sq with (z | ⟨o, z⟩) | sq
        · cases z
        · cases z
        · exact .inr sq
    · have gr : Grow A H (fun z => A z ∨ z = S ∨ z = l) H' [S, l] := ⟨kp, fun z hz => hz.imp id (by rintro (rfl | rfl) <;> simp), fun z hz => .inl hz, fun z hz => by simp at hz; rcases hz with rfl | rfl; exact hS; exact hl0, by simp [st.ne]⟩
      have p' := RpA.stay gr.stays _ _ _ (by simp) p0
      refine hq _ _ h _ [] H' (.ref S) [S, l] ⟨kp, fun z hz => .inl hz, fun z hz => (gr.ao z hz).imp id (gr.nw z), fun z hz _ => gr.ak z hz⟩ p' ?_ (by simp [st.ne]) (fun z hz => ?_) (fun z hz => .inr (gr.nw z hz))
      · rw [Rp]
        exact ⟨S, l, rfl, rfl, .inr (.inl rfl), .inr (.inr rfl), st⟩
      · obtain ⟨_, _, _, _, _, s1, s2, _⟩ := st.ex
        rcases hz with hz | rfl | rfl
        · cases e : H z with
          | none => exact (al z hz e).elim
          | some o => rw [kp.at_ z o (by simp) e]; simp
        · rw [s1]; simp
        · rw [s2]; simp
  · exact h.elim
theorem FnOk.impF {P : Program} {w : World} {K : PySem.W.Frag} {mg : Str → Option Value} {base : Heap} {CX : CXT} {k : Nat} {x : Str} {ps : List Str} {dvs : List V} {sp sp' : Sp} (O : OkF P w K mg base CX k x ps dvs sp) (h : ∀ vs H Q E, sp' vs H Q E → sp vs H Q E) : OkF P w K mg base CX k x ps dvs sp' :=
  let ⟨fd, ds, F, a, b, c, d⟩ := O; ⟨fd, ds, F.imp h, a, b, c, d⟩
end
end DL
namespace DL
open PySem PySem.Spec PyProof.Rows L2 PB
/-- a def that lets nothing out -/
theorem body_of0 {B : Bs} {H : Hp} {s : DSp} {ms : List Bool} {ws : WS} {vs : List V} {Q : VK} {E : XK} {N : List Str} {np : Nat} (h : spOf B s vs H Q E)
    (hd : ∀ ds Qd Xd, s ds Qd Xd → ds.length = np ∧ fzP ms ds = true ∧ ws (bodyE ms ds Qd fun _ _ => False) (ds.map some ++ List.replicate (N.length - np) none)) :
    liftS B (prOf ms vs) W0 ws { nx := fun _ H' => Q .non H', rt := Q } (L2.start N vs) H := by
  obtain ⟨A, F, ds, Qd, Xd, p, nd, al, h, hq, hx⟩ := h
  have key : spOf B (fun ds Q _ => s ds Q Xd) vs H Q fun _ _ _ => False := ⟨A, F, ds, Qd, fun _ _ => False, p, nd, al, h, hq, fun _ _ z => z.elim⟩
  refine body_of (E := fun _ _ _ => False) (N := N) (np := np) (s := fun ds Q X => s ds Q Xd ∧ X = fun _ _ => False) ?_ fun ds Qd X h => ?_
  · exact ⟨A, F, ds, Qd, fun _ _ => False, p, nd, al, ⟨h, rfl⟩, hq, fun _ _ z => z.elim⟩
  · obtain ⟨h, rfl⟩ := h
    exact hd ds Qd Xd h
def dspLaw : DSp := fun ds Q _ => match ds with
  | [.script] => Q (.bl true) [.script]
  | _ => False
def spLaw (K : PySem.W.Frag) : Sp := fun vs H Q _ => ∃ (a : Addr) (ns : List Int), vs = [.ref a] ∧ SqL K H a (ns.map V.int) ∧ ns.length ≤ 63 ∧ ∀ H', Q (.bl true) H'
theorem law_sp {K : PySem.W.Frag} {w : World} (vs : List V) (H : Hp) (Q : VK) (E : XK) (h : spLaw K vs H Q E) : spOf ⟨K, w⟩ dspLaw vs H Q E := by
  obtain ⟨a, ns, rfl, sq, hl, q⟩ := h
  refine ⟨fun _ => False, [], [.script], fun r _ => r = .bl true, fun _ _ => False, ?_, by simp, fun _ z => z.elim, rfl, fun r ds' hr A' F' H' v f st p' rv nd al src => ?_, fun _ _ z => z.elim⟩
  · refine rpa_of1 ?_
    rw [Rp]
    refine ⟨⟨a, ns, rfl, hl, ?_⟩, rfl⟩
    rcases sq with sq | sq
    · exact .inl ⟨sq, fun z => z⟩
    · exact .inr (.inr sq)
  · subst hr
    rw [Rp] at rv
    obtain ⟨rfl, _⟩ := rv
    exact q H'
end DL
namespace DL
open PySem PySem.Spec PyProof.Rows L2 PB
def onBl (d : D) (k : Bool → Prop) : Prop := match d with
  | .bl b => k b
  | _ => False
def onSeq (d : D) (k : List D → Prop) : Prop := match d with
  | .lst _ ds => k ds
  | .tup ds => cond (D.isFzA ds) (k ds) False
  | _ => False
def onLst (d : D) (k : List D → Prop) : Prop := match d with
  | .lst _ ds => k ds
  | _ => False
def onStr (d : D) (k : Str → Prop) : Prop := match d with
  | .str ds => k ds
  | _ => False
def onMade (r : D) (ds : List D) (k : D → List D → Prop) : Prop := match r, ds with
  | .non, d :: ds => k d ds
  | _, _ => False
section
variable {ρ : Rho} {i j n : Nat} {k : D → Prop} {x : Option D} {d d1 d2 : D} {Q : QD} {X : XD} {w wa wb wc : WD} {t u : WT} {ws : List WD} {o oa ob : Opd} {os : List Opd} {ds es : List D} {b : Bool} {z : Int} {s : Str} {g : D → D → (D → Prop) → Prop} {g1 : D → (D → Prop) → Prop} {QT : Bool → Rho → Prop} {QA : List D → Rho → Prop} {QR : List Arg → Rho → Prop} {as : List Arg} {E : DEnds} {kk : List D → Prop} {kb : Bool → Prop} {ki : Int → Prop} {kr : List D → Rho → Prop} {ks : Str → Prop}
theorem sl_0 : sl (some d :: ρ) 0 k = k d := rfl
theorem sl_s : sl (x :: ρ) (i + 1) k = sl ρ i k := rfl
theorem onBl_bl : onBl (.bl b) kb = kb b := rfl
theorem onInt_int : onInt (.int z) ki = ki z := rfl
theorem onSeq_lst : onSeq (.lst b ds) kk = kk ds := rfl
theorem onSeq_tup : onSeq (.tup ds) kk = cond (D.isFzA ds) (kk ds) False := rfl
theorem onLst_lst : onLst (.lst b ds) kk = kk ds := rfl
theorem onOwnL_lst : onOwnL (.lst true ds) kk = kk ds := rfl
theorem onStr_str : onStr (.str s) ks = ks s := rfl
theorem onMade_non {km : D → List D → Prop} : onMade .non (d :: ds) km = km d ds := rfl
theorem onSome_some {α : Type} {a : α} {ka : α → Prop} : onSome (some a) ka = ka a := rfl
theorem wVar_e : wVar i ρ Q X = sl ρ i fun d => cond d.mayFreeze (Q d.freeze (ρ.set i (some d.freeze))) False := rfl
theorem wMove_e : wMove i ρ Q X = sl ρ i fun d => Q d (ρ.set i none) := rfl
theorem wC_e : wC d ρ Q X = Q d ρ := rfl
theorem wFz_e : wFz w ρ Q X = w ρ (fun d ρ' => cond d.mayFreeze (Q d.freeze ρ') False) X := rfl
theorem wOp_ww : wOp g (.w wa) (.w wb) ρ Q X = wa ρ (fun d1 ρ1 => wb ρ1 (fun d2 ρ2 => g d1 d2 fun d => Q d ρ2) X) X := rfl
theorem wOp_vw : wOp g (.v i) (.w wb) ρ Q X = sl ρ i fun _ => wb ρ (fun d2 ρ2 => sl ρ2 i fun d1 => g d1 d2 fun d => Q d ρ2) X := rfl
theorem wOp_wv : wOp g (.w wa) (.v j) ρ Q X = wa ρ (fun d1 ρ1 => sl ρ1 j fun d2 => g d1 d2 fun d => Q d ρ1) X := rfl
theorem wOp_vv : wOp g (.v i) (.v j) ρ Q X = sl ρ i fun d1 => sl ρ j fun d2 => g d1 d2 fun d => Q d ρ := rfl
theorem wUn_w : wUn g1 (.w wa) ρ Q X = wa ρ (fun d ρ1 => g1 d fun d' => Q d' ρ1) X := rfl
theorem wUn_v : wUn g1 (.v i) ρ Q X = sl ρ i fun d => g1 d fun d' => Q d' ρ := rfl
theorem wOps_n : wOps [] ρ QA X = QA [] ρ := rfl
theorem wOps_w : wOps (.w w :: os) ρ QA X = w ρ (fun d ρ1 => wOps os ρ1 (fun ds ρ2 => QA (d :: ds) ρ2) X) X := rfl
theorem wOps_v : wOps (.v i :: os) ρ QA X = sl ρ i fun _ => wOps os ρ (fun ds ρ2 => sl ρ2 i fun d => QA (d :: ds) ρ2) X := rfl
theorem wCB_e {gc : List D → (D → Prop) → Prop} : wCB gc os ρ Q X = wOps os ρ (fun ds ρ1 => gc ds fun d => Q d ρ1) X := rfl
theorem wL_n : wL [] ρ QA X = QA [] ρ := rfl
theorem wL_c : wL (w :: ws) ρ QA X = w ρ (fun d ρ1 => wL ws ρ1 (fun ds ρ2 => QA (d :: ds) ρ2) X) X := rfl
theorem wTup_e : wTup ws ρ Q X = wL ws ρ (fun ds ρ1 => cond (decide (ds.length ≤ 1000)) (Q (.tup ds) ρ1) False) X := rfl
theorem wLst_e : wLst ws ρ Q X = wL ws ρ (fun ds ρ1 => cond (decide (ds.length ≤ 1000) && D.mayFreezeA ds) (Q (.lst true (D.freezeA ds)) ρ1) False) X := rfl
theorem wT_e : wT w ρ QT X = w ρ (fun d ρ1 => onBl d fun b => QT b ρ1) X := rfl
theorem wNotT_e : wNotT t ρ QT X = t ρ (fun b ρ1 => QT (!b) ρ1) X := rfl
theorem wAndT_e : wAndT t u ρ QT X = t ρ (fun b ρ1 => if b = true then u ρ1 QT X else QT false ρ1) X := rfl
theorem wOrT_e : wOrT t u ρ QT X = t ρ (fun b ρ1 => if b = true then QT true ρ1 else u ρ1 QT X) X := rfl
theorem wIfE_e : wIfE t wa wb ρ Q X = t ρ (fun c ρ1 => if c = true then wa ρ1 Q X else wb ρ1 Q X) X := rfl
theorem wAndV_e : wAndV wa wb ρ Q X = wa ρ (fun d ρ1 => onBl d fun c => if c = true then wb ρ1 Q X else Q (.bl false) ρ1) X := rfl
theorem wOrV_e : wOrV wa wb ρ Q X = wa ρ (fun d ρ1 => onBl d fun c => if c = true then Q (.bl true) ρ1 else wb ρ1 Q X) X := rfl
theorem wNotV_e : wNotV wa ρ Q X = wa ρ (fun d ρ1 => onBl d fun c => Q (.bl (!c)) ρ1) X := rfl
theorem wChain_e {g' : D → D → (D → Prop) → Prop} : wChain g g' wa wb wc ρ Q X = wa ρ (fun d1 ρ1 => wb ρ1 (fun d2 ρ2 => g d1 d2 fun r => onBl r fun k => if k = true then wc ρ2 (fun d3 ρ3 => g' d2 d3 fun d => Q d ρ3) X else Q (.bl false) ρ2) X) X := rfl
theorem wArgs_n : wArgs [] ρ QR X = QR [] ρ := rfl
theorem wArgs_w : wArgs (.w w :: os) ρ QR X = w ρ (fun d ρ1 => cond d.mayFreeze (wArgs os ρ1 (fun as ρ2 => QR (.z d.freeze :: as) ρ2) X) False) X := rfl
theorem wArgs_v : wArgs (.v i :: os) ρ QR X = sl ρ i fun _ => wArgs os ρ (fun as ρ2 => QR (.s i :: as) ρ2) X := rfl
theorem takeL_n : takeL [] ρ kr = kr [] ρ := rfl
theorem takeL_z : takeL (.z d :: as) ρ kr = takeL as ρ fun ds ρ' => kr (d :: ds) ρ' := rfl
theorem takeL_s : takeL (.s i :: as) ρ kr = sl ρ i fun d => takeL as (ρ.set i none) fun ds ρ' => kr (d :: ds) ρ' := rfl
theorem backL_n : backL [] ds ρ = ρ := rfl
theorem backL_z : backL (.z d :: as) ds ρ = backL as ds.tail ρ := rfl
theorem backL_s : backL (.s i :: as) (d :: ds) ρ = backL as ds (ρ.set i (some d)) := rfl
theorem callK_e {sp : DSp} : callK sp es as ρ Q X = takeL as ρ fun ds ρ2 => sp (ds ++ es) (fun r ds' => Q r (backL as ds' ρ2)) (fun x ds' => X x (backL as ds' ρ2)) := rfl
theorem wCall_e {sp : DSp} : wCall sp es os ρ Q X = wArgs os ρ (fun as ρ1 => callK sp es as ρ1 Q X) X := rfl
theorem wRecv_w {c m : Str} {QA : Arg → Rho → Prop} : wRecv c m (.w w) ρ QA X = w ρ (fun d ρ1 => isIns c m d (cond d.mayFreeze (QA (.z d.freeze) ρ1) False)) X := rfl
theorem wRecv_v {c m : Str} {QA : Arg → Rho → Prop} : wRecv c m (.v i) ρ QA X = sl ρ i fun d => isIns c m d (QA (.s i) ρ) := rfl
theorem isIns_e {c m c' : Str} {ns : List Str} {P : Prop} : isIns c m (.ins b c' ns ds) P = (c' = c ∧ ns.contains m = false ∧ P) := rfl
theorem wMeth_e {c m : Str} {sp : DSp} : wMeth c m sp es o os ρ Q X = wRecv c m o ρ (fun a ρ1 => wArgs os ρ1 (fun as ρ2 => callK sp es (a :: as) ρ2 Q X) X) X := rfl
theorem makeK_e {c : Str} {sp : DSp} : makeK c sp es as ρ Q X = takeL as ρ fun ds ρ2 => sp (.ins true c [] [] :: (ds ++ es)) (fun r ds' => onMade r ds' fun d ds'' => Q d (backL as ds'' ρ2)) (fun x ds' => X x (backL as ds'.tail ρ2)) := rfl
theorem wMake_e {c : Str} {sp : DSp} : wMake c sp es os ρ Q X = wArgs os ρ (fun as ρ1 => makeK c sp es as ρ1 Q X) X := rfl
theorem outP_n {ms : List Bool} : outP ms [] ρ kk = kk [] := by cases ms <;> rfl
theorem outP_t {ms : List Bool} : outP (true :: ms) (d1 :: ds) (some d :: ρ) kk = outP ms ds ρ fun r => kk (d :: r) := rfl
theorem outP_f {ms : List Bool} : outP (false :: ms) (d :: ds) (x :: ρ) kk = outP ms ds ρ fun r => kk (d :: r) := rfl
theorem outP_0 : outP [] (d :: ds) (x :: ρ) kk = outP [] ds ρ fun r => kk (d :: r) := rfl
theorem sPar_e {is : List Nat} : sPar is ws E ρ = wL ws ρ (fun ds ρ1 => ds.length = is.length ∧ E.nx ((is.zip ds).foldl (fun r q => r.set q.1 (some q.2)) ρ1)) E.xx := rfl
theorem gT_e {gs : WGs} {kρ : Rho → Prop} : gT n gs (.tup ds) ρ kρ = (ds.length = n ∧ gs ds ρ kρ) := rfl
theorem gsN_e {kρ : Rho → Prop} : gsNil [] ρ kρ = kρ ρ := rfl
theorem gsC_e {g0 : WG} {gs : WGs} {kρ : Rho → Prop} : gsCons g0 gs (d :: ds) ρ kρ = g0 d ρ fun ρ' => gs ds ρ' kρ := rfl
theorem wiSeq_e {QI : List D → Rho → Prop} : wiSeq w ρ QI X = w ρ (fun d ρ1 => onSeq d fun ds => QI ds ρ1) X := rfl
theorem wiStr_e {QI : List D → Rho → Prop} : wiStr w ρ QI X = w ρ (fun d ρ1 => onStr d fun z => QI (z.cps.toList.map fun c => .str ⟨#[c]⟩) ρ1) X := rfl
theorem wiEnum_e {QI : List D → Rho → Prop} : wiEnum w ρ QI X = w ρ (fun d ρ1 => onLst d fun ds => QI (ds.zipIdx.map fun p => .tup [.int (p.2 : Nat), p.1]) ρ1) X := rfl
def onInt1 (ds : List D) (k : Int → Prop) : Prop := match ds with
  | [.int j] => k j
  | _ => False
def onInt2 (ds : List D) (k : Int → Int → Prop) : Prop := match ds with
  | [.int i, .int j] => k i j
  | _ => False
theorem onInt1_e : onInt1 [.int z] ki = ki z := rfl
theorem onInt2_e {y : Int} {k2 : Int → Int → Prop} : onInt2 [.int z, .int y] k2 = k2 z y := rfl
theorem wiRng1_e {QI : List D → Rho → Prop} : wiRng1 o ρ QI X = wOps [o] ρ (fun ds ρ1 => onInt1 ds fun j => j < 1000000 ∧ -1000000 ≤ j ∧ QI (rngD 0 j.toNat) ρ1) X := by
  unfold wiRng1
  congr 1
theorem wiRng2_e {QI : List D → Rho → Prop} : wiRng2 oa ob ρ QI X = wOps [oa, ob] ρ (fun ds ρ1 => onInt2 ds fun i j => (j < 1000000 ∧ -1000000 ≤ j ∧ i < 1000000 ∧ -1000000 ≤ i) ∧ QI (rngD i (j - i).toNat) ρ1) X := by
  unfold wiRng2
  congr 1
theorem wLm_e {h : List D → List D → (List D → D → Prop) → Prop} : wLm i h ws ρ Q X = sl ρ i fun d0 => onOwnL d0 fun _ => wL ws ρ (fun as ρ1 => cond (D.mayFreezeA as) (sl ρ1 i fun l => onOwnL l fun ds => h ds (D.freezeA as) fun ds' r => Q r (ρ1.set i (some (.lst true ds')))) False) X := rfl
theorem hApp_e {k2 : List D → D → Prop} : hApp ds [d] k2 = (ds.length < 1000000 ∧ k2 (ds ++ [d]) .non) := rfl
theorem hExt_e {k2 : List D → D → Prop} : hExt ds [.lst b es] k2 = (ds.length + es.length ≤ 1000000 ∧ k2 (ds ++ es) .non) := rfl
theorem hIns_e {k2 : List D → D → Prop} : hIns ds [.int z, d] k2 = (ds.length < 1000000 ∧ 0 ≤ z ∧ z < 1000000 ∧ k2 (ds.take z.toNat ++ [d] ++ ds.drop z.toNat) .non) := rfl
theorem hPop_e {k2 : List D → D → Prop} : hPop ds [.int z] k2 = (ds.length ≤ 1000000 ∧ onSome (ixN ds.length z) fun j => onSome ds[j]? fun d => k2 (ds.eraseIdx j) d) := rfl
theorem gSetL_e {kρ : Rho → Prop} : gSetL i w d ρ kρ = cond d.isFz (sl ρ i fun d0 => onOwnL d0 fun _ => w ρ (fun j ρ1 => sl ρ1 i fun l => onOwnL l fun ds => onInt j fun j => onSome (ixN ds.length j) fun n => kρ (ρ1.set i (some (.lst true (ds.set n d))))) fun _ _ => False) False := rfl
theorem wPart_n {QO : Option Int → Rho → Prop} : wPart none ρ QO X = QO none ρ := rfl
theorem wPart_s {QO : Option Int → Rho → Prop} : wPart (some w) ρ QO X = w ρ (fun d ρ1 => onInt d fun i => QO (some i) ρ1) X := rfl
theorem wSl_w {gs : D → Option Int → Option Int → (D → Prop) → Prop} {lo hi : Option WD} : wSl gs lo hi (.w w) ρ Q X = w ρ (fun d ρ1 => wPart lo ρ1 (fun l ρ2 => wPart hi ρ2 (fun h ρ3 => gs d l h fun r => Q r ρ3) X) X) X := rfl
theorem wSl_v {gs : D → Option Int → Option Int → (D → Prop) → Prop} {lo hi : Option WD} : wSl gs lo hi (.v i) ρ Q X = sl ρ i fun _ => wPart lo ρ (fun l ρ2 => wPart hi ρ2 (fun h ρ3 => sl ρ3 i fun d => gs d l h fun r => Q r ρ3) X) X := rfl
theorem gSl_l {lo hi : Option Int} : gSl (.lst b ds) lo hi k = k (.lst true (cutD ds lo hi)) := rfl
theorem gSl_t {lo hi : Option Int} : gSl (.tup ds) lo hi k = cond (D.isFzA ds) (k (.tup (cutD ds lo hi))) False := rfl
theorem gSl_s {lo hi : Option Int} : gSl (.str s) lo hi k = (s.length ≤ 1000000 ∧ k (.str (cutS s lo hi))) := rfl
theorem wFld_e {cs : List Str} {f : Str} : wFld cs f o ρ Q X = wUn (fun d k => fldD cs f d k) o ρ Q X := rfl
theorem fldD_e {cs : List Str} {f c : Str} {ns : List Str} : fldD cs f (.ins b c ns ds) k = (cs.contains c = true ∧ onSome ((ns.zip ds).lookup f) fun d => cond d.isFz (k d) False) := rfl
def putO (cs : List Str) (f : Str) (d s : D) (k : D → Prop) : Prop := match s with
  | .ins true c ns ds => cs.contains c = true ∧ ns.length < 900 ∧ k (.ins true c (putNs f ns) (putDs f d ns ds))
  | _ => False
theorem sPut_e {cs : List Str} {f : Str} : sPut cs f i w E ρ = w ρ (fun d ρ1 => sl ρ1 i fun s => putO cs f d s fun s' => E.nx (ρ1.set i (some s'))) E.xx := rfl
theorem putO_e {cs : List Str} {f c : Str} {ns : List Str} : putO cs f d (.ins true c ns ds) k = (cs.contains c = true ∧ ns.length < 900 ∧ k (.ins true c (putNs f ns) (putDs f d ns ds))) := rfl
theorem may_i : D.mayFreeze (.int z) = true := rfl
theorem may_b : D.mayFreeze (.bl b) = true := rfl
theorem may_s : D.mayFreeze (.str s) = true := rfl
theorem may_n : D.mayFreeze .non = true := rfl
theorem may_y {m : String} : D.mayFreeze (.ty m) = true := rfl
theorem may_f : D.mayFreeze (.fn s) = true := rfl
theorem may_l : D.mayFreeze (.lst b ds) = true := rfl
theorem may_d : D.mayFreeze (.dic b ds es) = true := rfl
theorem may_t : D.mayFreeze (.tup ds) = D.mayFreezeA ds := by rw [D.mayFreeze]
theorem may_o {c : Str} {ns : List Str} : D.mayFreeze (.ins true c ns ds) = D.mayFreezeA ds := by rw [D.mayFreeze]
theorem may_z {c : Str} {ns : List Str} : D.mayFreeze (.ins false c ns ds) = true := rfl
theorem may_r : D.mayFreeze .script = true := rfl
theorem mayA_n : D.mayFreezeA [] = true := rfl
theorem mayA_c : D.mayFreezeA (d :: ds) = (D.mayFreeze d && D.mayFreezeA ds) := rfl
theorem frz_i : D.freeze (.int z) = .int z := rfl
theorem frz_b : D.freeze (.bl b) = .bl b := rfl
theorem frz_s : D.freeze (.str s) = .str s := rfl
theorem frz_n : D.freeze .non = .non := rfl
theorem frz_y {m : String} : D.freeze (.ty m) = .ty m := rfl
theorem frz_f : D.freeze (.fn s) = .fn s := rfl
theorem frz_r : D.freeze .script = .script := rfl
theorem frz_l : D.freeze (.lst b ds) = .lst false ds := rfl
theorem frz_d : D.freeze (.dic b ds es) = .dic false ds es := rfl
theorem frz_t : D.freeze (.tup ds) = .tup (D.freezeA ds) := rfl
theorem frz_o {c : Str} {ns : List Str} : D.freeze (.ins true c ns ds) = .ins false c ns (D.freezeA ds) := rfl
theorem frz_z {c : Str} {ns : List Str} : D.freeze (.ins false c ns ds) = .ins false c ns ds := rfl
theorem frzA_n : D.freezeA [] = [] := rfl
theorem frzA_c : D.freezeA (d :: ds) = D.freeze d :: D.freezeA ds := rfl
theorem fz_i : D.isFz (.int z) = true := rfl
theorem fz_b : D.isFz (.bl b) = true := rfl
theorem fz_s : D.isFz (.str s) = true := rfl
theorem fz_n : D.isFz .non = true := rfl
theorem fz_y {m : String} : D.isFz (.ty m) = true := rfl
theorem fz_f : D.isFz (.fn s) = true := rfl
theorem fz_r : D.isFz .script = true := rfl
theorem fz_l : D.isFz (.lst b ds) = !b := rfl
theorem fz_d : D.isFz (.dic b ds es) = !b := rfl
theorem fz_t : D.isFz (.tup ds) = D.isFzA ds := rfl
theorem fz_o {c : Str} {ns : List Str} : D.isFz (.ins b c ns ds) = !b := rfl
theorem fzA_n : D.isFzA [] = true := rfl
theorem fzA_c : D.isFzA (d :: ds) = (D.isFz d && D.isFzA ds) := rfl
theorem flat_i : D.flat (.int z) = true := rfl
theorem flat_b : D.flat (.bl b) = true := rfl
theorem flat_s : D.flat (.str s) = true := rfl
theorem flat_n : D.flat .non = true := rfl
theorem gI_e {F : Int → Int → D} {i j : Int} : gI F (.int i) (.int j) k = k (F i j) := rfl
theorem gII_e {C : Int → Int → Prop} {F : Int → Int → D} {i j : Int} : gII C F (.int i) (.int j) k = (C i j ∧ k (F i j)) := rfl
theorem gAdd_i {i j : Int} : gAdd (.int i) (.int j) k = k (.int (i + j)) := rfl
theorem gAdd_s {i j : Str} : gAdd (.str i) (.str j) k = (i.length + j.length ≤ 1000000 ∧ k (.str (i ++ j))) := rfl
theorem gAdd_l {b c : Bool} : gAdd (.lst b ds) (.lst c es) k = (ds.length + es.length ≤ 1000000 ∧ k (.lst true (ds ++ es))) := rfl
theorem gAdd_t : gAdd (.tup ds) (.tup es) k = (ds.length + es.length ≤ 1000000 ∧ D.isFzA ds = true ∧ D.isFzA es = true ∧ k (.tup (ds ++ es))) := rfl
theorem gEq_ii {i j : Int} : gEq (.int i) (.int j) k = k (.bl (decide (i = j))) := rfl
theorem gEq_ss {i j : Str} : gEq (.str i) (.str j) k = k (.bl (decide (i = j))) := rfl
theorem gEq_bb {i j : Bool} : gEq (.bl i) (.bl j) k = k (.bl (decide (i = j))) := rfl
theorem gEq_nn : gEq .non .non k = k (.bl true) := rfl
theorem gEq_ni {j : Int} : gEq .non (.int j) k = k (.bl false) := rfl
theorem gEq_in {j : Int} : gEq (.int j) .non k = k (.bl false) := rfl
theorem gEq_ns {j : Str} : gEq .non (.str j) k = k (.bl false) := rfl
theorem gEq_sn {j : Str} : gEq (.str j) .non k = k (.bl false) := rfl
theorem gNe_ii {i j : Int} : gNe (.int i) (.int j) k = k (.bl (!decide (i = j))) := rfl
theorem gNe_ss {i j : Str} : gNe (.str i) (.str j) k = k (.bl (!decide (i = j))) := rfl
theorem gNe_bb {i j : Bool} : gNe (.bl i) (.bl j) k = k (.bl (!decide (i = j))) := rfl
theorem gNe_nn : gNe .non .non k = k (.bl false) := rfl
theorem gNe_ni {j : Int} : gNe .non (.int j) k = k (.bl true) := rfl
theorem gNe_in {j : Int} : gNe (.int j) .non k = k (.bl true) := rfl
theorem gNe_ns {j : Str} : gNe .non (.str j) k = k (.bl true) := rfl
theorem gNe_sn {j : Str} : gNe (.str j) .non k = k (.bl true) := rfl
theorem gIsN_e {kd : Bool → D} : gIsN kd d .non k = cond d.mayFreeze (k (kd d.isNon)) False := rfl
theorem isNon_n : D.isNon .non = true := rfl
theorem isNon_i : D.isNon (.int z) = false := rfl
theorem isNon_b : D.isNon (.bl b) = false := rfl
theorem isNon_s : D.isNon (.str s) = false := rfl
theorem isNon_t : D.isNon (.tup ds) = false := rfl
theorem isNon_l : D.isNon (.lst b ds) = false := rfl
theorem gIsB_e {kd : Bool → D} {b c : Bool} : gIsB kd (.bl b) (.bl c) k = k (kd (decide (b = c))) := rfl
theorem gIx_l : gIx (.lst b ds) (.int z) k = onSome (atI ds z) k := by cases h : atI ds z <;> simp [gIx, onSome, h]
theorem gIx_t : gIx (.tup ds) (.int z) k = onSome (atI ds z) fun d => cond d.isFz (k d) False := by cases h : atI ds z <;> simp [gIx, onSome, h]
theorem gIx_s : gIx (.str s) (.int z) k = onSome (atI s.cps.toList z) fun c => s.length ≤ 1000000 ∧ k (.str ⟨#[c]⟩) := by cases h : atI s.cps.toList z <;> simp [gIx, onSome, h]
theorem gLen_l : gLen [.lst b ds] k = k (.int ds.length) := rfl
theorem gLen_t : gLen [.tup ds] k = k (.int ds.length) := rfl
theorem gLen_s : gLen [.str s] k = (s.length ≤ 1000000 ∧ k (.int s.length)) := rfl
theorem gInt_i : gInt [.int z] k = k (.int z) := rfl
theorem gInt_b : gInt [.bl b] k = k (.int (if b then 1 else 0)) := rfl
theorem gList_l : gList [.lst b ds] k = k (.lst true ds) := rfl
theorem gList_t : gList [.tup ds] k = cond (D.isFzA ds) (k (.lst true ds)) False := rfl
theorem gTuple_l : gTuple [.lst b ds] k = k (.tup ds) := rfl
theorem gTuple_t : gTuple [.tup ds] k = cond (D.isFzA ds) (k (.tup ds)) False := rfl
theorem gAllB_l {kl : List Bool → Bool} : gAllB kl [.lst b ds] k = onSome (D.blsA ds) fun bs => k (.bl (kl bs)) := by cases h : D.blsA ds <;> simp [gAllB, onSome, h]
theorem gIn_l {kd : Bool → D} : gIn kd d (.lst b ds) k = cond (d.flat && ds.all D.flat) (k (kd (ds.any fun z => z.eqv d))) False := rfl
theorem gIn_t {kd : Bool → D} : gIn kd d (.tup ds) k = cond (d.flat && ds.all D.flat) (k (kd (ds.any fun z => z.eqv d))) False := rfl
theorem gIsi_e {cs : List Str} : gIsi cs [d1, d2] k = isiD cs d1 d2 fun b => k (.bl b) := rfl
theorem isiD_i {cs : List Str} {n : String} : isiD cs (.int z) (.ty n) kb = (tyOk n = true ∧ True ∧ kb (isTy "int" n)) := by simp [isiD, D.tyN, tyOk]
theorem isiD_b {cs : List Str} {n : String} : isiD cs (.bl b) (.ty n) kb = (tyOk n = true ∧ True ∧ kb (isTy "bool" n)) := by simp [isiD, D.tyN, tyOk]
theorem isiD_s {cs : List Str} {n : String} : isiD cs (.str s) (.ty n) kb = (tyOk n = true ∧ True ∧ kb (isTy "str" n)) := by simp [isiD, D.tyN, tyOk]
theorem isiD_n {cs : List Str} {n : String} : isiD cs .non (.ty n) kb = (tyOk n = true ∧ True ∧ kb (isTy "NoneType" n)) := by simp [isiD, D.tyN, tyOk]
theorem isiD_l {cs : List Str} {n : String} : isiD cs (.lst b ds) (.ty n) kb = (tyOk n = true ∧ True ∧ kb (isTy "list" n)) := by simp [isiD, D.tyN, tyOk]
theorem isiD_t {cs : List Str} {n : String} : isiD cs (.tup ds) (.ty n) kb = (tyOk n = true ∧ True ∧ kb (isTy "tuple" n)) := by simp [isiD, D.tyN, tyOk]
theorem gNeg_e : gNeg (.int z) k = k (.int (-z)) := rfl
def onTwo (as : List Arg) (k : Arg → Arg → Prop) : Prop := match as with
  | [x, y] => k x y
  | _ => False
theorem onTwo_e {x y : Arg} {k2 : Arg → Arg → Prop} : onTwo [x, y] k2 = k2 x y := rfl
theorem argD_z : argD (.z d) ρ k = k d := rfl
theorem argD_s : argD (.s i) ρ k = sl ρ i k := rfl
theorem isC_e {c c' : Str} {ns : List Str} : isC c (.ins b c' ns ds) = (c' = c) := rfl
theorem isCI_e {c c' : Str} {ns : List Str} : isCI c (.ins b c' ns ds) = (c' = c) := rfl
theorem isCI_i {c : Str} : isCI c (.int z) = True := rfl
theorem wInOwn_e {c : Str} {sp : DSp} {neg : Bool} : wInOwn c sp neg oa ob ρ Q X = wArgs [oa, ob] ρ (fun as ρ1 => onTwo as fun x y => argD y ρ1 (isC c) ∧ callK sp [] [y, x] ρ1 (fun r ρ2 => onBl r fun b => Q (.bl (if neg then !b else b)) ρ2) X) X := rfl
theorem wOwn_e {c : Str} {sp : DSp} : wOwn c sp oa ob ρ Q X = wArgs [oa, ob] ρ (fun as ρ1 => onTwo as fun x y => argD x ρ1 (isC c) ∧ argD y ρ1 (isCI c) ∧ callK sp [] [x, y] ρ1 Q X) X := rfl
end
end DL
namespace DL
open PySem PySem.Spec PyProof.Rows L2 PB
def LcG (items : List D) (g : WG) (t : WT) (e : WD) (vs : List Nat) (ρ1 : Rho) (Q : QD) : Prop := ∃ Iv : Nat → List D → Rho → Prop, Iv 0 [] (wipeD ρ1 vs) ∧
  (∀ k d acc ρ', items[k]? = some d → Iv k acc ρ' → g d ρ' fun ρ2 => t ρ2 (fun b ρ3 => if b = true then e ρ3 (fun r ρ4 => acc.length < 1000000 ∧ cond r.mayFreeze (Iv (k + 1) (acc ++ [r.freeze]) (wipeD ρ4 vs)) False) (fun _ _ => False) else Iv (k + 1) acc (wipeD ρ3 vs)) fun _ _ => False) ∧
  ∀ acc ρ', Iv items.length acc ρ' → Q (.lst true acc) (wipeD ρ' vs)
def ForG (items : List D) (g : WG) (body : WS) (E : DEnds) (ρ1 : Rho) : Prop := ∃ Iv : Nat → Rho → Prop, Iv 0 ρ1 ∧ (∀ k d ρ', items[k]? = some d → Iv k ρ' → g d ρ' fun ρ2 => body { E with nx := Iv (k + 1), ct := Iv (k + 1), bk := E.nx } ρ2) ∧ ∀ ρ', Iv items.length ρ' → E.nx ρ'
section
variable {wi : WI} {g : WG} {t : WT} {e : WD} {vs : List Nat} {ρ ρ1 : Rho} {Q : QD} {X : XD} {body : WS} {E : DEnds}
theorem wLc_e : wLc wi g t e vs ρ Q X = wi ρ (fun items ρ1 => LcG items g t e vs ρ1 Q) X := rfl
theorem sFor_e : sFor wi g body E ρ = wi ρ (fun items ρ1 => ForG items g body E ρ1) E.xx := rfl
/-- [e for x in xs]: every turn gives out x and leaves the slots as they were -/
theorem lc_map {α : Type} {enc out : α → D} {xs : List α} (hw : wipeD ρ1 vs = ρ1) (hl : xs.length ≤ 1000000) (ho : ∀ x ∈ xs, (out x).isFz = true) (h : ∀ x ∈ xs, ∀ (K : QD) (X0 : XD), (∀ ρ', wipeD ρ' vs = ρ1 → K (out x) ρ') → g (enc x) ρ1 fun ρ2 => e ρ2 K X0) (hq : Q (.lst true (xs.map out)) ρ1) : LcG (xs.map enc) g wYes e vs ρ1 Q := by
  refine ⟨fun k acc ρ' => acc = (xs.take k).map out ∧ ρ' = ρ1, ⟨by simp, hw⟩, ?_, ?_⟩
  · rintro k d acc ρ' hk ⟨rfl, rfl⟩
    rw [List.getElem?_map] at hk
    cases hx : xs[k]? with
    | none => rw [hx] at hk; cases hk
    | some x =>
      rw [hx] at hk
      cases hk
      have hm := List.mem_of_getElem? hx
      have hlt := (List.getElem?_eq_some_iff.mp hx).1
      refine h x hm _ _ fun ρ' hw' => ⟨by rw [List.length_map, List.length_take]; omega, ?_⟩
      rw [D.may_fz _ (ho x hm), D.freeze_fz _ (ho x hm), cond_true]
      refine ⟨?_, hw'⟩
      rw [List.take_succ, hx, List.map_append]
      rfl
  · rintro acc ρ' ⟨rfl, rfl⟩
    rw [List.length_map, List.take_length, hw]
    exact hq
/-- for x in xs: one invariant -/
theorem for_inv {items : List D} (Iv : Nat → Rho → Prop) (h0 : Iv 0 ρ1) (hs : ∀ k d ρ', items[k]? = some d → Iv k ρ' → g d ρ' fun ρ2 => body { E with nx := Iv (k + 1), ct := Iv (k + 1), bk := E.nx } ρ2) (he : ∀ ρ', Iv items.length ρ' → E.nx ρ') : ForG items g body E ρ1 := ⟨Iv, h0, hs, he⟩
end
end DL
namespace DL
open PySem PySem.Spec PyProof.Rows L2 PB
def onZip (ds : List D) (k : List D → List D → Prop) : Prop := match ds with
  | [.lst _ a, .lst _ b] => k a b
  | [.tup a, .tup b] => cond (D.isFzA a && D.isFzA b) (k a b) False
  | _ => False
def zipD (a b : List D) : List D := (a.zip b).map fun p => .tup [p.1, p.2]
def wiZip (wa wb : WD) : WI := fun ρ Q X => wL [wa, wb] ρ (fun ds ρ1 => onZip ds fun a b => Q (zipD a b) ρ1) X
theorem wiZip_e {wa wb : WD} {ρ : Rho} {X : XD} {QI : List D → Rho → Prop} : wiZip wa wb ρ QI X = wL [wa, wb] ρ (fun ds ρ1 => onZip ds fun a b => QI (zipD a b) ρ1) X := rfl
theorem onZip_l {a b : List D} {o u : Bool} {k : List D → List D → Prop} : onZip [.lst o a, .lst u b] k = k a b := rfl
theorem onZip_t {a b : List D} {k : List D → List D → Prop} : onZip [.tup a, .tup b] k = cond (D.isFzA a && D.isFzA b) (k a b) False := rfl
theorem zip_get {a b : List D} {i : Nat} {d : D} (h : (zipD a b)[i]? = some d) : ∃ x y, a[i]? = some x ∧ b[i]? = some y ∧ d = .tup [x, y] := by
  unfold zipD at h
  rw [List.getElem?_map] at h
  cases q : (a.zip b)[i]? with
  | none => rw [q] at h; cases h
  | some p =>
    rw [q] at h
    cases h
    obtain ⟨h1, h2⟩ := List.getElem?_zip_eq_some.mp q
    exact ⟨p.1, p.2, h1, h2, rfl⟩
theorem zip_len (a b : List D) : (zipD a b).length = min a.length b.length := by simp [zipD]
section
variable {B : Bs} {X : Cx} {pr : Nat → Option V} {W : WX} {a b e e2 : Expr} {pos p : Pos} {wa wb : WD}
theorem two_rp {A : Addr → Prop} {H : Hp} {d1 d2 : D} {vs : List V} (h : RpA B A H [d1, d2] vs []) : ∃ x y, vs = [x, y] ∧ Rp B A H d1 x [] ∧ Rp B A H d2 y [] := rpa2 h
theorem di_zip {elts : List Expr} {kk : Nat} {tpos : Pos} (hg : Gl X "zip") (hm : X.mg "zip" = none) (ha : DE B X pr W e wa) (hb : DE B X pr W e2 wb)
    (hs : starEach [e, e2] X.env = (false, eval e X.env) :: starEach [e2] X.env := by rfl) (hs1 : starEach [e2] X.env = (false, eval e2 X.env) :: starEach [] X.env := by rfl) (hpl : (backTo pos (starEach [e2] X.env)).any (·.1) = false := by rfl) (hK : X.K = B.K := by rfl) :
    DI B X pr W (.Tuple elts kk tpos) (.Call (.Name "zip" p) [e, e2] [] pos) (wiZip wa wb) := by
  refine piW (RZ.pi_zipA hg hm (pa_cons ha (pa_cons hb pa_nil hs1) hs) hs hpl) fun σ H R ⟨A, F, ρ, Qd, Xd, en, h, hq, hx⟩ => ?_
  refine lift_ws [wa, wb] en h hx fun ds ρ1 hd A1 F1 H1 vs f o => ?_
  unfold onZip at hd
  split at hd
  · rename_i ow xa uw xb
    have o2 := OutA.freeze en o rfl
    obtain ⟨x, y, rfl, r1, r2⟩ := two_rp (show RpA B _ H1 [.lst false xa, .lst false xb] vs [] from o2.val)
    rw [Rp] at r1 r2
    obtain ⟨c1, v1, rfl, k1, q1, n1, _⟩ := r1
    obtain ⟨c2, v2, rfl, k2, q2, n2, _⟩ := r2
    have l1 := RpA.len _ _ _ k1
    have l2 := RpA.len _ _ _ k2
    refine ⟨c1, c2, v1, v2, rfl, .inl ⟨SqL.of q1, SqL.of q2, hq _ ρ1 hd _ F1 H1 _ o2.step o2.env fun i F2 A2 F3 H2 fa st al => ?_⟩⟩
    have at1 : H2 c1 = some (.lst v1) := st.keep.at_ _ _ (fun z => n1 (fa c1 z)) q1
    have at2 : H2 c2 = some (.lst v2) := st.keep.at_ _ _ (fun z => n2 (fa c2 z)) q2
    refine ⟨fun d hi => ?_, fun hi => ⟨v1, v2, SqL.of at1, SqL.of at2, by rw [zip_len] at hi; omega⟩⟩
    obtain ⟨d1, d2, h1, h2, rfl⟩ := zip_get hi
    obtain ⟨x1, e1, p1⟩ := kid_at fa st k1 h1
    obtain ⟨x2, e2, p2⟩ := kid_at fa st k2 h2
    refine ⟨⟨v1, v2, x1, x2, SqL.of at1, SqL.of at2, e1, e2⟩, fun y H3 hy => ?_⟩
    obtain ⟨T, y1, y2, rfl, hT, rfl, g1, g2⟩ := hy
    have z1 := g1 v1 (SqL.of at1)
    have z2 := g2 v2 (SqL.of at2)
    rw [e1] at z1
    rw [e2] at z2
    cases z1
    cases z2
    refine ⟨A2, [], Grow.tup (Keep.new hT), rp_newT hT ?_⟩
    rw [RpA]
    exact ⟨_, _, [], [], rfl, rfl, p1, rpa_of1 p2⟩
  · rename_i xa xb
    cases m : (D.isFzA xa && D.isFzA xb) with
    | false => rw [m] at hd; exact hd.elim
    | true =>
      rw [m] at hd
      rw [Bool.and_eq_true] at m
      have mf : D.isFzA [.tup xa, .tup xb] = true := by rw [D.isFzA, D.isFzA, D.isFzA, D.isFz, D.isFz, m.1, m.2]; rfl
      have := RpA.fz _ _ _ mf o.val
      subst this
      obtain ⟨x, y, rfl, r1, r2⟩ := two_rp o.val
      rw [Rp] at r1 r2
      obtain ⟨c1, v1, rfl, q1, k1⟩ := r1
      obtain ⟨c2, v2, rfl, q2, k2⟩ := r2
      have l1 := RpA.len _ _ _ k1
      have l2 := RpA.len _ _ _ k2
      refine ⟨c1, c2, v1, v2, rfl, .inr ⟨by rw [hK]; exact q1, by rw [hK]; exact q2, hq _ ρ1 hd _ F1 H1 _ o.step o.env fun i F2 A2 F3 H2 fa st al => ?_⟩⟩
      have at1 : SqT X.K H2 c1 v1 := by rw [hK]; exact st.keep.seqT q1
      have at2 : SqT X.K H2 c2 v2 := by rw [hK]; exact st.keep.seqT q2
      refine ⟨fun d hi => ?_, fun hi => ⟨v1, v2, at1, at2, by rw [zip_len] at hi; omega⟩⟩
      obtain ⟨d1, d2, h1, h2, rfl⟩ := zip_get hi
      obtain ⟨x1, e1, p1⟩ := kid_at fa st k1 h1
      obtain ⟨x2, e2, p2⟩ := kid_at fa st k2 h2
      refine ⟨⟨v1, v2, x1, x2, at1, at2, e1, e2⟩, fun y H3 hy => ?_⟩
      obtain ⟨T, y1, y2, rfl, hT, rfl, g1, g2⟩ := hy
      have z1 := g1 v1 at1
      have z2 := g2 v2 at2
      rw [e1] at z1
      rw [e2] at z2
      cases z1
      cases z2
      refine ⟨A2, [], Grow.tup (Keep.new hT), rp_newT hT ?_⟩
      rw [RpA]
      exact ⟨_, _, [], [], rfl, rfl, p1, rpa_of1 p2⟩
  · exact hd.elim
end
end DL
namespace DL
open PySem PySem.Spec PyProof.Rows L2 PB
section
variable {κ α β : Type} [DecidableEq κ]
/-- the first place of a key -/
def fI : List κ → κ → Option Nat
  | [], _ => none
  | x :: xs, c => if x = c then some 0 else (fI xs c).map (· + 1)
theorem fI_pos {x c : κ} {xs : List κ} (h : x = c) : fI (x :: xs) c = some 0 := if_pos h
theorem fI_neg {x c : κ} {xs : List κ} (h : ¬ x = c) : fI (x :: xs) c = (fI xs c).map (· + 1) := if_neg h
theorem fI_map {γ : Type} [DecidableEq γ] {f : κ → γ} (hf : ∀ a b, f a = f b → a = b) (c : κ) : ∀ xs : List κ, fI (xs.map f) (f c) = fI xs c
  | [] => rfl
  | x :: xs => by
    rw [List.map_cons]
    by_cases h : x = c
    · rw [fI_pos h, fI_pos (by rw [h])]
    · rw [fI_neg h, fI_neg (fun z => h (hf _ _ z)), fI_map hf c xs]
theorem fI_lt {c : κ} : ∀ {xs : List κ} {j : Nat}, fI xs c = some j → j < xs.length
  | [], _, h => by cases h
  | x :: xs, j, h => by
    by_cases e : x = c
    · rw [fI_pos e] at h; cases h; simp
    · rw [fI_neg e] at h
      obtain ⟨i, hi, rfl⟩ := Option.map_eq_some_iff.mp h
      have := fI_lt hi
      simp; omega
theorem fI_none {c : κ} : ∀ {xs : List κ}, fI xs c = none → c ∉ xs
  | [], _, h => by cases h
  | x :: xs, h, m => by
    by_cases e : x = c
    · rw [fI_pos e] at h; cases h
    · rw [fI_neg e] at h
      rcases List.mem_cons.mp m with z | z
      · exact e z.symm
      · exact fI_none (Option.map_eq_none_iff.mp h) z
theorem valV_fI (k : κ) : ∀ (kk : List κ) (vs : List V), kk.length = vs.length → valV (kk.zip vs) k = (fI kk k).bind (vs[·]?)
  | [], [], _ => rfl
  | x :: xs, v :: vs, h => by
    rw [List.zip_cons_cons]
    by_cases e : x = k
    · rw [valV_pos (p := (x, v)) e, fI_pos e]; rfl
    · rw [valV_neg (p := (x, v)) e, fI_neg e, valV_fI k xs vs (by simpa using h)]
      cases fI xs k <;> rfl
theorem putK_same (k : κ) (v : V) : ∀ (kvs : List (κ × V)), k ∉ kvs.map (·.1) → kvs.map (fun kv => if kv.1 = k then (kv.1, v) else kv) = kvs
  | [], _ => rfl
  | p :: r, h => by
    rw [List.map_cons, List.mem_cons, not_or] at h
    rw [List.map_cons, if_neg (fun z => h.1 z.symm), putK_same k v r h.2]
theorem zip_keys : ∀ (kk : List κ) (vs : List β), kk.length = vs.length → (kk.zip vs).map (·.1) = kk
  | [], [], _ => rfl
  | x :: xs, v :: vs, h => by rw [List.zip_cons_cons, List.map_cons, zip_keys xs vs (by simpa using h)]
theorem put_map (k : κ) (v : V) : ∀ (kk : List κ) (vs : List V) (j : Nat), kk.length = vs.length → kk.Nodup → fI kk k = some j → (kk.zip vs).map (fun kv => if kv.1 = k then (kv.1, v) else kv) = kk.zip (vs.set j v)
  | [], [], _, _, _, h => by cases h
  | x :: xs, y :: vs, j, hl, nd, h => by
    rw [List.nodup_cons] at nd
    rw [List.zip_cons_cons, List.map_cons]
    by_cases e : x = k
    · rw [fI_pos e] at h
      cases h
      rw [if_pos e, putK_same k v _ (by rw [zip_keys xs vs (by simpa using hl)]; rw [← e]; exact nd.1), List.set_cons_zero, List.zip_cons_cons]
    · rw [fI_neg e] at h
      obtain ⟨i, hi, rfl⟩ := Option.map_eq_some_iff.mp h
      rw [if_neg e, put_map k v xs vs i (by simpa using hl) nd.2 hi, List.set_cons_succ, List.zip_cons_cons]
theorem putK_some {k : κ} {v : V} {kk : List κ} {vs : List V} {j : Nat} (hl : kk.length = vs.length) (nd : kk.Nodup) (h : fI kk k = some j) : putK (kk.zip vs) k v = kk.zip (vs.set j v) := by
  have hs : (valV (kk.zip vs) k).isSome = true := by
    rw [valV_fI k kk vs hl, h]
    have := fI_lt h
    simp; omega
  unfold putK
  rw [valV_any, if_pos hs]
  exact put_map k v kk vs j hl nd h
theorem putK_none {k : κ} {v : V} {kk : List κ} {vs : List V} (hl : kk.length = vs.length) (h : fI kk k = none) : putK (kk.zip vs) k v = (kk ++ [k]).zip (vs ++ [v]) := by
  rw [putK_new v (by rw [valV_fI k kk vs hl, h]; rfl), List.zip_append hl]
  rfl
theorem atKey_fI (k : κ) : ∀ xs : List (κ × Addr × Value), atKey xs k = (fI (xs.map (·.1)) k).bind fun j => (xs[j]?).map (·.2)
  | [] => rfl
  | x :: xs => by
    rw [List.map_cons]
    by_cases e : x.1 = k
    · rw [fI_pos e]; simp [atKey, List.find?_cons, e]
    · have ih := atKey_fI k xs
      rw [fI_neg e]
      have : atKey (x :: xs) k = atKey xs k := by simp [atKey, List.find?_cons, e]
      rw [this, ih]
      cases fI (xs.map (·.1)) k <;> simp
end
mutual
theorem NestedIs_of {B : Bs} {X : Cx} {pins : List (Addr × Obj)} {σ : L2.St} {H : Hp} {s : Shared} (hK : X.K = B.K) (I : L2.Inv X pins σ H s) : ∀ (d : D) (v : V) (c : CK) (u : Value), KeyR B H d v → d.ck = some c → RelV v u → NestedIs s.heap c u
  | .non, _, c, _, h, e, r => by rw [KeyR] at h; subst h; cases r; cases e; exact .none
  | .bl b, _, c, _, h, e, r => by rw [KeyR] at h; subst h; cases r; cases e; exact .bool rfl
  | .int i, _, c, _, h, e, r => by rw [KeyR] at h; subst h; obtain ⟨t, rfl⟩ := r; cases e; exact .int _ _
  | .str x, _, c, _, h, e, r => by rw [KeyR] at h; subst h; obtain ⟨t, rfl⟩ := r; cases e; exact .text _ _
  | .tup ds, _, c, _, h, e, r => by
    rw [KeyR] at h
    obtain ⟨a, vs, rfl, q, ra⟩ := h
    cases r
    rw [D.ck] at e
    obtain ⟨cs, hcs, rfl⟩ := Option.map_eq_some_iff.mp e
    rw [← hK] at q
    obtain ⟨its, rv, ⟨o, h1, h2, n, h3⟩, _⟩ := I.tuple q
    exact .tup h1 h2 h3 (NestedAll_of hK I ds vs cs its ra hcs rv)
  | .ty _, _, _, _, h, e, _ => by cases e
  | .fn _, _, _, _, h, e, _ => by cases e
  | .lst _ _, _, _, _, h, e, _ => by cases e
  | .ins _ _ _ _, _, _, _, h, e, _ => by cases e
  | .dic _ _ _, _, _, _, h, e, _ => by cases e
  | .spring _, _, _, _, h, e, _ => by cases e
  | .script, _, _, _, h, e, _ => by cases e
theorem NestedAll_of {B : Bs} {X : Cx} {pins : List (Addr × Obj)} {σ : L2.St} {H : Hp} {s : Shared} (hK : X.K = B.K) (I : L2.Inv X pins σ H s) : ∀ (ds : List D) (vs : List V) (cs : List CK) (us : List Value), KeyRA B H ds vs → D.ckA ds = some cs → Vals vs us → NestedAll s.heap cs us
  | [], _, cs, _, h, e, r => by rw [KeyRA] at h; subst h; cases r; cases e; exact .nil
  | d :: ds, _, cs, us, h, e, r => by
    rw [KeyRA] at h
    obtain ⟨v, vr, rfl, p, q⟩ := h
    rw [D.ckA] at e
    cases r with
    | cons r1 r2 =>
      cases hd : D.ck d with
      | none => rw [hd] at e; cases e
      | some c =>
        cases hds : D.ckA ds with
        | none => rw [hd, hds] at e; cases e
        | some cs' =>
          rw [hd, hds] at e
          cases e
          exact .cons (NestedIs_of hK I d v c _ p hd r1) (NestedAll_of hK I ds vr cs' _ q hds r2)
end
theorem ext_rd {P : Program} {w : World} {H : Hp} {h : Heap} {a : Addr} {φ : Heap → Prop} (ok : HOk P w H h) (e : Rd H a (.ext φ)) : φ h := by
  rcases e with e | ⟨o, e⟩
  · exact (ok a _ e).1
  · exact (ok a _ e).2.1
/-- the entries of a dict whose keys are tuples -/
theorem ext_dict {B : Bs} {X : Cx} {pins : List (Addr × Obj)} {σ : L2.St} {H : Hp} {s : Shared} {a : Addr} {ks : List D} {es : List (CK × Addr × V)} (hK : X.K = B.K) (hw : X.w = B.w) (I : L2.Inv X pins σ H s) (q : Rd H a (.ext (dphi B.w a es))) (nd : (es.map (·.1)).Nodup)
    (hk : Paired (fun (d : D) (p : CK × Addr × V) => KeyR B H d (.ref p.2.1) ∧ d.ck = some p.1 ∧ p.1.depth ≤ 8) ks es) :
    ∃ xs : List (CK × Addr × Value), s.heap.DictOfH (nestedKind X.prog X.w) a xs ∧ Paired (fun (p : CK × Addr × V) (x : CK × Addr × Value) => x.1 = p.1 ∧ x.2.1 = p.2.1 ∧ RelV p.2.2 x.2.2) es xs := by
  obtain ⟨o, tb, ep, h1, h2, h3, pr⟩ := ext_rd I.hok q
  have main : ∀ (ks : List D) (es : List (CK × Addr × V)) (tl : List DictEntry), Paired (fun (d : D) (p : CK × Addr × V) => KeyR B H d (.ref p.2.1) ∧ d.ck = some p.1 ∧ p.1.depth ≤ 8) ks es → Paired (fun (p : CK × Addr × V) (e : DictEntry) => e.hash = NestedKey.hash B.w p.1 ∧ e.key = .ref p.2.1 ∧ RelV p.2.2 e.val) es tl →
      ∃ xs : List (CK × Addr × Value), tl = xs.map (entryOfKey (nestedKind X.prog X.w)) ∧ (∀ x ∈ xs, (nestedKind X.prog X.w).is s.heap x.1 x.2.1) ∧ Paired (fun (p : CK × Addr × V) (x : CK × Addr × Value) => x.1 = p.1 ∧ x.2.1 = p.2.1 ∧ RelV p.2.2 x.2.2) es xs ∧ xs.map (·.1) = es.map (·.1) := by
    intro ks es tl hk
    induction hk generalizing tl with
    | nil => intro h; cases h; exact ⟨[], rfl, by simp, .nil, rfl⟩
    | @cons d p _ _ hd _ ih =>
      intro h
      cases h with
      | cons he ht =>
        rename_i e _
        obtain ⟨xs, e1, e2, e3, e4⟩ := ih _ ht
        refine ⟨(p.1, p.2.1, e.val) :: xs, ?_, ?_, .cons ⟨rfl, rfl, he.2.2⟩ e3, by rw [List.map_cons, List.map_cons, e4]⟩
        · rw [List.map_cons, e1]
          congr 1
          cases e
          obtain ⟨rfl, rfl, _⟩ := he
          rw [← hw]
          rfl
        · intro x hx
          rcases List.mem_cons.mp hx with rfl | hx
          · exact ⟨NestedIs_of hK I _ _ _ _ hd.1 hd.2.1 rfl, hd.2.2⟩
          · exact e2 x hx
  obtain ⟨xs, e1, e2, e3, e4⟩ := main ks es tb.toList hk pr
  exact ⟨xs, ⟨o, tb, ep, h1, h2, h3, e1, e2, by rw [e4]; exact nd⟩, e3⟩
def dAt (ks : List D) (k : D) : Option Nat := fI (ks.map D.ck) k.ck
def D.isT : D → Bool
  | .tup _ => true
  | _ => false
def D.isIS : D → Bool
  | .int _ => true
  | .str _ => true
  | _ => false
def D.kOk (k : D) : Bool := match k.ck with
  | some c => decide (c.depth ≤ 8)
  | none => false
def kFit (ks : List D) (k : D) : Bool := (k.isIS && ks.all D.isIS) || (k.isT && k.kOk && ks.all D.isT)
theorem kOk_iff {k : D} (h : k.kOk = true) : ∃ c, k.ck = some c ∧ c.depth ≤ 8 := by
  unfold D.kOk at h
  split at h
  · rename_i c e; exact ⟨c, e, of_decide_eq_true h⟩
  · cases h
theorem kD_inj : ∀ a b : Key, (kD a).ck = (kD b).ck → a = b
  | .inl i, .inl j, h => by simp [kD, D.ck] at h; rw [h]
  | .inr i, .inr j, h => by simp [kD, D.ck] at h; rw [h]
  | .inl _, .inr _, h => by simp [kD, D.ck] at h
  | .inr _, .inl _, h => by simp [kD, D.ck] at h
theorem isIS_key {k : D} (h : k.isIS = true) : ∃ x : Key, k = kD x := by
  cases k <;> first | cases h | skip
  · exact ⟨.inl _, rfl⟩
  · exact ⟨.inr _, rfl⟩
theorem dAt_key (kk : List Key) (x : Key) : dAt (kk.map kD) (kD x) = fI kk x := by
  unfold dAt
  rw [List.map_map]
  exact fI_map (f := fun a => (kD a).ck) kD_inj x kk
theorem paired_ck {B : Bs} {H : Hp} {ks : List D} {es : List (CK × Addr × V)} (h : Paired (fun (d : D) (p : CK × Addr × V) => KeyR B H d (.ref p.2.1) ∧ d.ck = some p.1 ∧ p.1.depth ≤ 8) ks es) : ks.map D.ck = (es.map (·.1)).map some := by
  induction h with
  | nil => rfl
  | cons hd _ ih => rw [List.map_cons, List.map_cons, List.map_cons, ih, hd.2.1]
theorem dAt_ext {B : Bs} {H : Hp} {ks : List D} {es : List (CK × Addr × V)} {k : D} {c : CK} (h : Paired (fun (d : D) (p : CK × Addr × V) => KeyR B H d (.ref p.2.1) ∧ d.ck = some p.1 ∧ p.1.depth ≤ 8) ks es) (e : k.ck = some c) : dAt ks k = fI (es.map (·.1)) c := by
  unfold dAt
  rw [paired_ck h, e, fI_map (fun a b z => Option.some.inj z) c]
theorem xs_keys {es : List (CK × Addr × V)} {xs : List (CK × Addr × Value)} (h : Paired (fun (p : CK × Addr × V) (x : CK × Addr × Value) => x.1 = p.1 ∧ x.2.1 = p.2.1 ∧ RelV p.2.2 x.2.2) es xs) : xs.map (·.1) = es.map (·.1) := by
  induction h with
  | nil => rfl
  | cons hd _ ih => rw [List.map_cons, List.map_cons, ih, hd.1]
theorem xs_at {es : List (CK × Addr × V)} {xs : List (CK × Addr × Value)} (h : Paired (fun (p : CK × Addr × V) (x : CK × Addr × Value) => x.1 = p.1 ∧ x.2.1 = p.2.1 ∧ RelV p.2.2 x.2.2) es xs) : ∀ {j : Nat} {p : CK × Addr × V}, es[j]? = some p → ∃ x, xs[j]? = some x ∧ RelV p.2.2 x.2.2 := by
  induction h with
  | nil => intro j p e; cases e
  | cons hd _ ih =>
    intro j p e
    cases j with
    | zero => simp at e; subst e; exact ⟨_, rfl, hd.2.2⟩
    | succ j => exact ih (by simpa using e)
/-- a dict seen from a key: what the library's rules need -/
inductive Seen (B : Bs) (X : Cx) (H : Hp) (s : Shared) (a : Addr) (ks : List D) (vs : List V) (k : D) (u : Value) : Prop
  | key (x : Key) (kk : List Key) (ws : List (Key × Value)) : k = kD x → ks = kk.map kD → kk.Nodup → kk.length = vs.length → kk.length ≤ sizeLine → KV (kk.zip vs) ws → s.heap.DictOf (mixKind X.prog X.w) a ws → (mixKind X.prog X.w).is x u = true → Seen B X H s a ks vs k u
  | tup (c : CK) (b : Addr) (es : List (CK × Addr × V)) (xs : List (CK × Addr × Value)) : k.ck = some c → u = .ref b → (nestedKind X.prog X.w).is s.heap c b → vs = es.map (·.2.2) → Paired (fun (d : D) (p : CK × Addr × V) => KeyR B H d (.ref p.2.1) ∧ d.ck = some p.1 ∧ p.1.depth ≤ 8) ks es → (es.map (·.1)).Nodup → es.length ≤ sizeLine → s.heap.DictOfH (nestedKind X.prog X.w) a xs →
      Paired (fun (p : CK × Addr × V) (x : CK × Addr × Value) => x.1 = p.1 ∧ x.2.1 = p.2.1 ∧ RelV p.2.2 x.2.2) es xs → Seen B X H s a ks vs k u
theorem seen {B : Bs} {X : Cx} {pins : List (Addr × Obj)} {σ : L2.St} {H : Hp} {s : Shared} {a : Addr} {ks : List D} {vs : List V} {k : D} {y : V} {u : Value} (hK : X.K = B.K) (hw : X.w = B.w) (I : L2.Inv X pins σ H s) (h : DicAt B H a ks vs) (hk : KeyR B H k y) (f : kFit ks k = true) (ry : RelV y u) :
    (a == sysModules) = false ∧ Seen B X H s a ks vs k u := by
  have key : ∀ x : Key, k = kD x → (mixKind X.prog X.w).is x u = true := fun x e => by
    subst e
    cases x with
    | inl i => rw [show kD (.inl i) = .int i from rfl, KeyR] at hk; subst hk; exact kV_is (k := .inl i) ry
    | inr z => rw [show kD (.inr z) = .str z from rfl, KeyR] at hk; subst hk; exact kV_is (k := .inr z) ry
  have tup : k.isT = true → k.kOk = true → ∃ c b, k.ck = some c ∧ u = .ref b ∧ (nestedKind X.prog X.w).is s.heap c b := fun h1 h2 => by
    obtain ⟨c, e, hd⟩ := kOk_iff h2
    cases k <;> first | cases h1 | skip
    have hk' := hk
    rw [KeyR] at hk
    obtain ⟨b, _, rfl, _⟩ := hk
    cases ry
    exact ⟨c, b, e, rfl, NestedIs_of hK I _ _ _ _ hk' e rfl, hd⟩
  unfold kFit at f
  rw [Bool.or_eq_true] at f
  rcases h with ⟨kk, rfl, nd, hl, q⟩ | ⟨es, q, nd, hz, rfl, ha, pk⟩
  · obtain ⟨z, ha, ws, kv, dd⟩ := dk_rd I.hok q
    refine ⟨ha, ?_⟩
    rcases f with f | f
    · rw [Bool.and_eq_true] at f
      obtain ⟨x, rfl⟩ := isIS_key f.1
      refine .key x kk ws rfl rfl nd hl ?_ kv dd (key x rfl)
      rw [List.length_zip] at z
      omega
    · rw [Bool.and_eq_true, Bool.and_eq_true] at f
      obtain ⟨c, b, e1, e2, e3⟩ := tup f.1.1 f.1.2
      have hn : kk = [] := by
        cases kk with
        | nil => rfl
        | cons x _ =>
          have := f.2
          rw [List.map_cons, List.all_cons, Bool.and_eq_true] at this
          cases x <;> cases this.1
      subst hn
      have hv : vs = [] := by cases vs <;> first | rfl | cases hl
      subst hv
      cases kv
      obtain ⟨o, tb, ep, h1, h2, h3, h4, h5, _⟩ := dd
      refine .tup c b [] [] e1 e2 e3 rfl .nil (by simp) (Nat.zero_le _) ⟨o, tb, ep, h1, h2, h3, ?_, by simp, by simp⟩ .nil
      cases h5' : tb.toList with
      | nil => rfl
      | cons _ _ => rw [h5'] at h5; cases h5
  · refine ⟨ha, ?_⟩
    rcases f with f | f
    · rw [Bool.and_eq_true] at f
      have hn : ks = [] := by
        cases pk with
        | nil => rfl
        | @cons d p _ _ hd _ =>
          have := f.2
          rw [List.all_cons, Bool.and_eq_true] at this
          obtain ⟨x, rfl⟩ := isIS_key this.1
          have h1 := hd.1
          cases x with
          | inl i => rw [show kD (.inl i) = .int i from rfl, KeyR] at h1; cases h1
          | inr i => rw [show kD (.inr i) = .str i from rfl, KeyR] at h1; cases h1
      subst hn
      cases pk
      obtain ⟨x, rfl⟩ := isIS_key f.1
      obtain ⟨o, tb, ep, h1, h2, h3, pr⟩ := ext_rd I.hok q
      have ht : tb = #[] := by
        cases tb with
        | mk l => cases l with
          | nil => rfl
          | cons _ _ => cases pr
      subst ht
      exact .key x [] [] rfl rfl (by simp) rfl (Nat.zero_le _) .nil ⟨o, #[], ep, h1, h2, h3, fun j => by simp, .nil, by simp⟩ (key x rfl)
    · rw [Bool.and_eq_true, Bool.and_eq_true] at f
      obtain ⟨c, b, e1, e2, e3⟩ := tup f.1.1 f.1.2
      obtain ⟨xs, dd, px⟩ := ext_dict hK hw I q nd pk
      exact .tup c b es xs e1 e2 e3 rfl pk nd hz dd px
section
variable {B : Bs} {X : Cx}
theorem room8 {A : Around} (hu : A.units + 64 < cLine) {P : Program} {w : World} : (nestedKind P w).room A.in1 := by
  show A.in1.units + 8 < cLine
  have : A.in1.units = A.units + 1 := rfl
  omega
theorem seen_in {H : Hp} {s : Shared} {a : Addr} {ks : List D} {vs : List V} {k : D} {u : Value} {A : Around} {E : Value → Shared → Prop} {Q : Value → Shared → Prop} (hu : A.units + 64 < cLine) (ha : (a == sysModules) = false) (h : Seen B X H s a ks vs k u) (q : ∀ t, Q (.bool (dAt ks k).isSome) { s with toks := t }) :
    wpAny (model X.prog X.w) A (compareOp .In u (.ref a)) Q E s := by
  cases h with
  | key x kk ws e1 e2 nd hl hz kv dd ik =>
    subst e1 e2
    refine wpAny_in_of ik ha dd.mapOf ?_
    rw [← (kv.val x).isSome_eq, valV_fI x kk vs hl, ← dAt_key]
    have : ((dAt (kk.map kD) (kD x)).bind (vs[·]?)).isSome = (dAt (kk.map kD) (kD x)).isSome := by
      rw [dAt_key]
      cases e : fI kk x with
      | none => rfl
      | some j => have := fI_lt e; simp; omega
    rw [this]
    exact q _
  | tup c b es xs e1 e2 ik e3 pk nd hz dd px =>
    subst e2
    refine wpAny_in_heap (room8 hu) ik ha dd ?_
    rw [atKey_fI, xs_keys px, ← dAt_ext pk e1]
    have : ((dAt ks k).bind fun j => (xs[j]?).map (·.2)).isSome = (dAt ks k).isSome := by
      rw [dAt_ext pk e1]
      cases e : fI (es.map (·.1)) c with
      | none => rfl
      | some j =>
        have := fI_lt e
        rw [← xs_keys px, List.length_map] at this
        simp; omega
    rw [this]
    exact q _
theorem seen_notIn {H : Hp} {s : Shared} {a : Addr} {ks : List D} {vs : List V} {k : D} {u : Value} {A : Around} {E : Value → Shared → Prop} {Q : Value → Shared → Prop} (hu : A.units + 64 < cLine) (ha : (a == sysModules) = false) (h : Seen B X H s a ks vs k u) (q : ∀ t, Q (.bool (!(dAt ks k).isSome)) { s with toks := t }) :
    wpAny (model X.prog X.w) A (compareOp .NotIn u (.ref a)) Q E s := by
  cases h with
  | key x kk ws e1 e2 nd hl hz kv dd ik =>
    subst e1 e2
    refine wpAny_notIn_of ik ha dd.mapOf ?_
    rw [← (kv.val x).isSome_eq, valV_fI x kk vs hl, ← dAt_key]
    have : ((dAt (kk.map kD) (kD x)).bind (vs[·]?)).isSome = (dAt (kk.map kD) (kD x)).isSome := by
      rw [dAt_key]
      cases e : fI kk x with
      | none => rfl
      | some j => have := fI_lt e; simp; omega
    rw [this]
    exact q _
  | tup c b es xs e1 e2 ik e3 pk nd hz dd px =>
    subst e2
    refine wpAny_notIn_heap (room8 hu) ik ha dd ?_
    rw [atKey_fI, xs_keys px, ← dAt_ext pk e1]
    have : ((dAt ks k).bind fun j => (xs[j]?).map (·.2)).isSome = (dAt ks k).isSome := by
      rw [dAt_ext pk e1]
      cases e : fI (es.map (·.1)) c with
      | none => rfl
      | some j =>
        have := fI_lt e
        rw [← xs_keys px, List.length_map] at this
        simp; omega
    rw [this]
    exact q _
theorem seen_get {H : Hp} {s : Shared} {a : Addr} {ks : List D} {vs : List V} {k : D} {u : Value} {A : Around} {E : Value → Shared → Prop} {Q : Value → Shared → Prop} {j : Nat} {v : V} (hu : A.units + 64 < cLine) (h : Seen B X H s a ks vs k u) (hj : dAt ks k = some j) (hv : vs[j]? = some v) (q : ∀ w' t, RelV v w' → Q w' { s with toks := t }) :
    wpAny (model X.prog X.w) A (getItem (.ref a) u) Q E s := by
  cases h with
  | key x kk ws e1 e2 nd hl hz kv dd ik =>
    subst e1 e2
    rw [dAt_key] at hj
    have hval : valV (kk.zip vs) x = some v := by rw [valV_fI x kk vs hl, hj]; exact hv
    obtain ⟨w', hw, rw'⟩ := RelO.some_of (v := v) (o := valueAt ws x) (by rw [← hval]; exact kv.val x)
    exact wpAny_getItem_of ik dd.mapOf hw (q w' _ rw')
  | tup c b es xs e1 e2 ik e3 pk nd hz dd px =>
    subst e2 e3
    rw [dAt_ext pk e1] at hj
    rw [List.getElem?_map] at hv
    obtain ⟨p, hp, rfl⟩ := Option.map_eq_some_iff.mp hv
    obtain ⟨x, hx, rx⟩ := xs_at px hp
    refine wpAny_getItem_heap (p := x.2) (room8 hu) ik dd ?_ (q _ _ rx)
    rw [atKey_fI, xs_keys px, hj]
    simp [hx]
def putKs (ks : List D) (k : D) : List D := match dAt ks k with
  | some _ => ks
  | none => ks ++ [k]
def putVs {α : Type} (ks : List D) (vs : List α) (k : D) (v : α) : List α := match dAt ks k with
  | some j => vs.set j v
  | none => vs ++ [v]
def putE (es : List (CK × Addr × V)) (c : CK) (b : Addr) (v : V) : List (CK × Addr × V) := match fI (es.map (·.1)) c with
  | some _ => es.map fun p => if p.1 = c then (p.1, p.2.1, v) else p
  | none => es ++ [(c, b, v)]
theorem putE_same (c : CK) (v : V) : ∀ es : List (CK × Addr × V), c ∉ es.map (·.1) → es.map (fun p => if p.1 = c then (p.1, p.2.1, v) else p) = es
  | [], _ => rfl
  | p :: r, h => by
    rw [List.map_cons, List.mem_cons, not_or] at h
    rw [List.map_cons, if_neg (fun z => h.1 z.symm), putE_same c v r h.2]
theorem putE_vals (c : CK) (v : V) : ∀ (es : List (CK × Addr × V)) (j : Nat), (es.map (·.1)).Nodup → fI (es.map (·.1)) c = some j → (es.map fun p => if p.1 = c then (p.1, p.2.1, v) else p).map (·.2.2) = (es.map (·.2.2)).set j v
  | [], _, _, h => by cases h
  | p :: r, j, nd, h => by
    rw [List.map_cons, List.nodup_cons] at nd
    rw [List.map_cons] at h
    rw [List.map_cons, List.map_cons, List.map_cons]
    by_cases e : p.1 = c
    · rw [fI_pos e] at h
      cases h
      rw [if_pos e, putE_same c v r (by rw [← e]; exact nd.1), List.set_cons_zero]
    · rw [fI_neg e] at h
      obtain ⟨i, hi, rfl⟩ := Option.map_eq_some_iff.mp h
      rw [if_neg e, putE_vals c v r i nd.2 hi, List.set_cons_succ]
theorem putE_keys (c : CK) (v : V) (es : List (CK × Addr × V)) : (es.map fun p => if p.1 = c then (p.1, p.2.1, v) else p).map (·.1) = es.map (·.1) := by
  rw [List.map_map]
  refine List.map_congr_left fun p _ => ?_
  simp only [Function.comp_apply]
  split <;> rfl
theorem putE_nodup {es : List (CK × Addr × V)} {c : CK} {b : Addr} {v : V} (nd : (es.map (·.1)).Nodup) : ((putE es c b v).map (·.1)).Nodup := by
  unfold putE
  cases h : fI (es.map (·.1)) c with
  | some j => rw [putE_keys]; exact nd
  | none =>
    rw [List.map_append]
    exact List.nodup_append.mpr ⟨nd, by simp, fun x hx y hy => by simp at hy; subst hy; intro e; subst e; exact fI_none h hx⟩
theorem putE_len {es : List (CK × Addr × V)} {c : CK} {b : Addr} {v : V} : (putE es c b v).length ≤ es.length + 1 := by
  unfold putE
  split
  · rw [List.length_map]; omega
  · simp
theorem putE_paired {H : Hp} {ks : List D} {es : List (CK × Addr × V)} {k : D} {c : CK} {b : Addr} {v : V} (pk : Paired (fun (d : D) (p : CK × Addr × V) => KeyR B H d (.ref p.2.1) ∧ d.ck = some p.1 ∧ p.1.depth ≤ 8) ks es) (hk : KeyR B H k (.ref b)) (e : k.ck = some c) (hd : c.depth ≤ 8) :
    Paired (fun (d : D) (p : CK × Addr × V) => KeyR B H d (.ref p.2.1) ∧ d.ck = some p.1 ∧ p.1.depth ≤ 8) (putKs ks k) (putE es c b v) := by
  unfold putKs putE
  rw [dAt_ext pk e]
  cases h : fI (es.map (·.1)) c with
  | some j =>
    have : ∀ {ks es}, Paired (fun (d : D) (p : CK × Addr × V) => KeyR B H d (.ref p.2.1) ∧ d.ck = some p.1 ∧ p.1.depth ≤ 8) ks es → Paired (fun (d : D) (p : CK × Addr × V) => KeyR B H d (.ref p.2.1) ∧ d.ck = some p.1 ∧ p.1.depth ≤ 8) ks (es.map fun p => if p.1 = c then (p.1, p.2.1, v) else p) := by
      intro ks es h
      induction h with
      | nil => exact .nil
      | cons hd _ ih =>
        rw [List.map_cons]
        refine .cons ?_ ih
        split <;> exact hd
    exact this pk
  | none => exact Paired.snoc pk ⟨hk, e, hd⟩
theorem putE_stored {es : List (CK × Addr × V)} {xs : List (CK × Addr × Value)} {c : CK} {b : Addr} {v : V} {u : Value} (px : Paired (fun (p : CK × Addr × V) (x : CK × Addr × Value) => x.1 = p.1 ∧ x.2.1 = p.2.1 ∧ RelV p.2.2 x.2.2) es xs) (rv : RelV v u) :
    Paired (fun (p : CK × Addr × V) (x : CK × Addr × Value) => x.1 = p.1 ∧ x.2.1 = p.2.1 ∧ RelV p.2.2 x.2.2) (putE es c b v) (storedH xs c b u) := by
  have hs : (atKey xs c).isSome = (fI (es.map (·.1)) c).isSome := by
    rw [atKey_fI, xs_keys px]
    cases e : fI (es.map (·.1)) c with
    | none => rfl
    | some j =>
      have := fI_lt e
      rw [← xs_keys px, List.length_map] at this
      simp; omega
  unfold putE storedH
  rw [hs]
  cases h : fI (es.map (·.1)) c with
  | none => exact Paired.snoc px ⟨rfl, rfl, rv⟩
  | some j =>
    have : ∀ {es xs}, Paired (fun (p : CK × Addr × V) (x : CK × Addr × Value) => x.1 = p.1 ∧ x.2.1 = p.2.1 ∧ RelV p.2.2 x.2.2) es xs → Paired (fun (p : CK × Addr × V) (x : CK × Addr × Value) => x.1 = p.1 ∧ x.2.1 = p.2.1 ∧ RelV p.2.2 x.2.2) (es.map fun p => if p.1 = c then (p.1, p.2.1, v) else p) (xs.map (putAt c u)) := by
      intro es xs h
      induction h with
      | nil => exact .nil
      | @cons p x _ _ hd _ ih =>
        rw [List.map_cons, List.map_cons]
        refine .cons ?_ ih
        unfold putAt
        rw [hd.1]
        by_cases e : p.1 = c
        · rw [if_pos e, if_pos e]; exact ⟨rfl, hd.2.1, rv⟩
        · rw [if_neg e, if_neg e]; exact hd
    exact this px
theorem Rd.nofz {H : Hp} {a : Addr} {u : HO} (h : Rd H a u) (n : NoFz H a) : H a = some u := by
  rcases h with h | ⟨o, h⟩
  · exact h
  · exact absurd h (n o u)
theorem NoFz.upd {H : Hp} {a : Addr} {u : HO} (h : ∀ o v, u ≠ .frz o v) : NoFz (L2.upd H a u) a := fun o v e => by rw [upd_same] at e; cases e; exact h _ _ rfl
theorem DicAt.mut {H : Hp} {a : Addr} {ks : List D} {vs : List V} (h : DicAt B H a ks vs) (n : NoFz H a) : Mut (H a) ∧ ∀ u, H a = some u → ¬ Imm u := by
  rcases h with ⟨kk, _, _, _, q⟩ | ⟨es, q, _⟩
  · rw [Rd.nofz q n]; exact ⟨True.intro, fun u e => by cases e; exact fun z => z⟩
  · rw [Rd.nofz q n]; exact ⟨True.intro, fun u e => by cases e; exact fun z => z⟩
def rDSet (B : Bs) : TSet := fun o i v H Q => ∃ a ks vs k, o = .ref a ∧ DicAt B H a ks vs ∧ NoFz H a ∧ KeyR B H k i ∧ kFit ks k = true ∧ ks.length < 1000000 ∧ ∀ ob, DicAt B (upd H a ob) a (putKs ks k) (putVs ks vs k v) → NoFz (upd H a ob) a → Q (upd H a ob)
theorem set_dict (hu : X.A.units + 64 < cLine) (hK : X.K = B.K) (hw : X.w = B.w) : PSet X (rDSet B) := by
  intro pins s σ H o i v ov iv u Q I ro ri rv h
  obtain ⟨a, ks, vs, k, rfl, hd, nf, hk, hf, hz, q⟩ := h
  cases ro
  obtain ⟨ha, sn⟩ := seen hK hw I hd hk hf ri
  have mu := hd.mut nf
  have kp : ∀ ob, Keep [a] H (upd H a ob) := fun ob => by
    cases e : H a with
    | none => have := mu.1; rw [e] at this; exact this.elim
    | some u => exact Keep.set' (by simp) e (mu.2 u e)
  have h63 := sz_lt (n := ks.length) (by omega)
  cases sn with
  | key x kk ws e1 e2 nd hl hz' kv dd ik =>
    subst e1 e2
    have hl2 : (putK (kk.zip vs) x v).length ≤ sizeLine := by
      have := length_putK (kk.zip vs) x v
      rw [List.length_zip] at this
      rw [List.length_map] at h63
      omega
    have hwz : ws.length ≤ sizeLine := by rw [← kv.length, List.length_zip]; omega
    refine wpAny_setItem_pairs (hsz := hwz) ik dd fun h' dd' hs => ⟨_, d_write I mu.1 hs (let ⟨q, _, _, hq, _⟩ := dd'; ⟨q, hq⟩) (dk_new hl2 ha (kv.put x rv) dd'), q _ ?_ (NoFz.upd (by intro _ _ z; cases z))⟩
    refine .inl ?_
    unfold putKs putVs
    rw [dAt_key]
    cases e : fI kk x with
    | some j =>
      refine ⟨kk, rfl, nd, by rw [List.length_set]; exact hl, ?_⟩
      exact .inl (by rw [upd_same, putK_some hl nd e])
    | none =>
      refine ⟨kk ++ [x], by rw [List.map_append]; rfl, List.nodup_append.mpr ⟨nd, by simp, fun y hy z hz => by simp at hz; subst hz; intro e2; subst e2; exact fI_none e hy⟩, by simp [hl], ?_⟩
      exact .inl (by rw [upd_same, putK_none hl e])
  | tup c b es xs e1 e2 ik e3 pk nd hz' dd px =>
    subst e2 e3
    have hes : es.length = ks.length := by rw [Paired.length pk]
    have hxs : xs.length ≤ sizeLine := by rw [← Paired.length px]; exact hz'
    refine wpAny_setItem_heap (hsz := hxs) (room8 hu) ik dd fun h' dd' hs => ⟨upd H a (.ext (dphi B.w a (putE es c b v))), ?_, q _ ?_ (NoFz.upd (by intro _ _ z; cases z))⟩
    · obtain ⟨o, tb, ep, h1, h2, h3, h4, h5, h6⟩ := dd'
      refine d_write I mu.1 hs ⟨o, h1⟩ ⟨⟨o, tb, ep, h1, h2, h3, ?_⟩, ⟨o, h1⟩, fun g1 g2 ⟨o, tb, ep, z1, z⟩ zz => ⟨o, tb, ep, zz o z1, z⟩⟩
      rw [h4]
      have : ∀ {es : List (CK × Addr × V)} {xs : List (CK × Addr × Value)}, Paired (fun (p : CK × Addr × V) (x : CK × Addr × Value) => x.1 = p.1 ∧ x.2.1 = p.2.1 ∧ RelV p.2.2 x.2.2) es xs → Paired (fun (p : CK × Addr × V) (e : DictEntry) => e.hash = NestedKey.hash B.w p.1 ∧ e.key = .ref p.2.1 ∧ RelV p.2.2 e.val) es (xs.map (entryOfKey (nestedKind X.prog X.w))) := by
        intro es xs h
        induction h with
        | nil => exact .nil
        | cons hd _ ih => exact .cons ⟨by rw [← hd.1, ← hw]; rfl, by rw [← hd.2.1]; rfl, hd.2.2⟩ ih
      exact this (putE_stored px rv)
    · have hkb : KeyR B H k (.ref b) := by
        have : i = .ref b := by
          have := ri.abs
          cases this
          rfl
        rw [← this]; exact hk
      refine .inr ⟨putE es c b v, .inl upd_same, putE_nodup nd, by have := putE_len (es := es) (c := c) (b := b) (v := v); omega, ?_, ha, ?_⟩
      · unfold putVs putE
        rw [dAt_ext pk e1]
        cases e : fI (es.map (·.1)) c with
        | some j => exact (putE_vals c v es j nd e).symm
        | none => rw [List.map_append]; rfl
      · exact Paired.mapP (putE_paired pk hkb e1 ik.2) fun d p z => ⟨KeyR.imm (kp _) _ _ z.1, z.2⟩
def rDIn (B : Bs) (n : Bool) : R2 := fun x y H Q => ∃ a ks vs k, y = .ref a ∧ DicAt B H a ks vs ∧ KeyR B H k x ∧ kFit ks k = true ∧ Q (.bl (if n = true then !(dAt ks k).isSome else (dAt ks k).isSome)) H
theorem op_inDic (hu : X.A.units + 64 < cLine) (hK : X.K = B.K) (hw : X.w = B.w) : OpR X (compareOp .In) (rDIn B false) := by
  intro pins s σ H x y v u Q I rx ry h
  obtain ⟨a, ks, vs, k, rfl, hd, hk, hf, q⟩ := h
  cases ry
  obtain ⟨ha, sn⟩ := seen hK hw I hd hk hf rx
  exact seen_in hu ha sn fun t => ⟨.bl _, H, I.tok t, rfl, q⟩
theorem op_notInDic (hu : X.A.units + 64 < cLine) (hK : X.K = B.K) (hw : X.w = B.w) : OpR X (compareOp .NotIn) (rDIn B true) := by
  intro pins s σ H x y v u Q I rx ry h
  obtain ⟨a, ks, vs, k, rfl, hd, hk, hf, q⟩ := h
  cases ry
  obtain ⟨ha, sn⟩ := seen hK hw I hd hk hf rx
  exact seen_notIn hu ha sn fun t => ⟨.bl _, H, I.tok t, rfl, q⟩
def rDGet (B : Bs) : R2 := fun x y H Q => ∃ a ks vs k j v, x = .ref a ∧ DicAt B H a ks vs ∧ KeyR B H k y ∧ kFit ks k = true ∧ dAt ks k = some j ∧ vs[j]? = some v ∧ Q v H
theorem seen_type {H : Hp} {s : Shared} {a : Addr} {ks : List D} {vs : List V} {k : D} {u : Value} (h : Seen B X H s a ks vs k u) : s.TypeIs (.ref a) "dict" := by
  cases h with
  | key x kk ws e1 e2 nd hl hz kv dd ik => exact dd.mapOf.typeIs
  | tup c b es xs e1 e2 ik e3 pk nd hz dd px => exact dd.typeIs
theorem ix_dict (hu : X.A.units + 64 < cLine) (hK : X.K = B.K) (hw : X.w = B.w) : IxR X (rDGet B) := by
  intro value slice pins s σ H x y v u Q I rx ry h hs
  obtain ⟨a, ks, vs, k, j, z, rfl, hd, hk, hf, hj, hv, q⟩ := h
  cases rx
  obtain ⟨ha, sn⟩ := seen hK hw I hd hk hf ry
  have hT := seen_type sn
  have h2 : wpAny (model X.prog X.w) X.A (getItem (.ref a) u) (EP X pins σ Q) X.xe s := seen_get hu sn hj hv fun w' t rw' => ⟨z, H, I.tok t, rw', q⟩
  unfold subscriptTail
  refine wpAny_bind ?_
  rw [getitemInPython_of_ne hT.not_modules]
  refine wpAny_bind (wpAny_specialOf hT PySem.F.slot_dict_getitem.lookup ?_)
  have fin : wpAny (model X.prog X.w) X.A (subscripted slice false (.ref a) u) (fun r s₃ => wpAny (model X.prog X.w) X.A (letTemporaryGo value (.ref a) r >>= fun _ => pure r) (EP X pins σ Q) X.xe s₃) X.xe s := by
    rw [hs]
    exact wpAny_operating (wpAny_mono h2 (fun r s₃ h₃ => wpAny_bind (wpAny_letTemporaryGo (wpAny_pure h₃))) fun _ _ x => x)
  first
    | exact wpAny_pure (wpAny_bind fin)
    | exact wpAny_bind (wpAny_pure (wpAny_bind fin))
    | exact wpAny_bind fin
variable {A : Addr → Prop} {H : Hp}
mutual
theorem Rp.key : ∀ (d : D) (v : V) (f : List Addr), Rp B A H d v f → d.ck.isSome = true → KeyR B H d v
  | .non, _, _, h, _ => by rw [Rp] at h; rw [KeyR]; exact h.1
  | .bl _, _, _, h, _ => by rw [Rp] at h; rw [KeyR]; exact h.1
  | .int _, _, _, h, _ => by rw [Rp] at h; rw [KeyR]; exact h.1
  | .str _, _, _, h, _ => by rw [Rp] at h; rw [KeyR]; exact h.1
  | .tup ds, _, f, h, e => by
    rw [Rp] at h
    obtain ⟨a, vs, rfl, q, r⟩ := h
    rw [KeyR]
    refine ⟨a, vs, rfl, q, RpA.key ds vs f r ?_⟩
    rw [D.ck, Option.isSome_map] at e
    exact e
  | .ty _, _, _, _, e => by cases e
  | .fn _, _, _, _, e => by cases e
  | .lst _ _, _, _, _, e => by cases e
  | .ins _ _ _ _, _, _, _, e => by cases e
  | .dic _ _ _, _, _, _, e => by cases e
  | .spring _, _, _, _, e => by cases e
  | .script, _, _, _, e => by cases e
theorem RpA.key : ∀ (ds : List D) (vs : List V) (f : List Addr), RpA B A H ds vs f → (D.ckA ds).isSome = true → KeyRA B H ds vs
  | [], _, _, h, _ => by rw [RpA] at h; rw [KeyRA]; exact h.1
  | d :: ds, _, f, h, e => by
    rw [RpA] at h
    obtain ⟨v, vr, g, k, rfl, rfl, p, r⟩ := h
    rw [KeyRA]
    rw [D.ckA] at e
    cases hd : D.ck d with
    | none => rw [hd] at e; cases e
    | some c =>
      cases hds : D.ckA ds with
      | none => rw [hd, hds] at e; cases e
      | some cs => exact ⟨v, vr, rfl, Rp.key d v g p (by rw [hd]; rfl), RpA.key ds vr k r (by rw [hds]; rfl)⟩
end
theorem Pk.key {d : D} {v : V} (h : Pk B A H d v) (e : d.ck.isSome = true) : KeyR B H d v := by
  cases d <;> first | (cases e; done) | skip
  · rw [KeyR]; exact h
  · rw [KeyR]; exact h
  · rw [KeyR]; exact h
  · rw [KeyR]; exact h
  · rename_i ds
    obtain ⟨a, vs, g, rfl, q, r⟩ := h
    rw [KeyR]
    rw [D.ck, Option.isSome_map] at e
    exact ⟨a, vs, rfl, q, RpA.key ds vs g r e⟩
theorem kFit_ck {ks : List D} {k : D} (h : kFit ks k = true) : k.ck.isSome = true := by
  unfold kFit at h
  rw [Bool.or_eq_true, Bool.and_eq_true, Bool.and_eq_true, Bool.and_eq_true] at h
  rcases h with h | h
  · obtain ⟨x, rfl⟩ := isIS_key h.1; cases x <;> rfl
  · obtain ⟨c, e, _⟩ := kOk_iff h.1.2; rw [e]; rfl
def gInX (k : Bool → D) : D → D → (D → Prop) → Prop := fun x d Q => match d with
  | .dic _ ks _ => kFit ks x = true ∧ Q (k (dAt ks x).isSome)
  | d => gIn k x d Q
theorem od_inX (hu : X.A.units + 64 < cLine) (hK : X.K = B.K := by rfl) (hw : X.w = B.w := by rfl) : OpD B X (compareOp .In) (gInX fun b => .bl b) := by
  obtain ⟨r, h1, h2⟩ := od_in (B := B) (X := X) hK
  refine ⟨_, OpRor h1 (op_inDic hu hK hw), fun A H x y d1 d2 Q Qd al p1 p2 hg hq => ?_⟩
  unfold gInX at hg
  split at hg
  · obtain ⟨a, vs, rfl, r, q⟩ := p2
    exact .inr ⟨a, _, vs, d1, rfl, q, p1.key (kFit_ck hg.1), hg.1, by rw [if_neg (by simp)]; exact hq _ hg.2 A H _ [] (Grow.same A H) rp_bl⟩
  · exact .inl (h2 A H x y d1 d2 Q Qd al p1 p2 hg hq)
theorem od_notInX (hu : X.A.units + 64 < cLine) (hK : X.K = B.K := by rfl) (hw : X.w = B.w := by rfl) : OpD B X (compareOp .NotIn) (gInX fun b => .bl (!b)) := by
  obtain ⟨r, h1, h2⟩ := od_notIn (B := B) (X := X) hK
  refine ⟨_, OpRor h1 (op_notInDic hu hK hw), fun A H x y d1 d2 Q Qd al p1 p2 hg hq => ?_⟩
  unfold gInX at hg
  split at hg
  · obtain ⟨a, vs, rfl, r, q⟩ := p2
    exact .inr ⟨a, _, vs, d1, rfl, q, p1.key (kFit_ck hg.1), hg.1, by rw [if_pos rfl]; exact hq _ hg.2 A H _ [] (Grow.same A H) rp_bl⟩
  · exact .inl (h2 A H x y d1 d2 Q Qd al p1 p2 hg hq)
def gIxX : D → D → (D → Prop) → Prop := fun d x Q => match d with
  | .dic _ ks ds => kFit ks x = true ∧ onSome (dAt ks x) fun j => onSome (ds[j]?) Q
  | d => gIx d x Q
theorem ixd_any (hu : X.A.units + 64 < cLine) (hK : X.K = B.K := by rfl) (hw : X.w = B.w := by rfl) : IxD B X gIxX := by
  obtain ⟨r, h1, h2⟩ := ixd_seq (B := B) (X := X) hK
  refine ⟨_, h1.or (ix_dict hu hK hw), fun A H x y d1 d2 Q Qd al p1 p2 hg hq => ?_⟩
  unfold gIxX at hg
  split at hg
  · obtain ⟨a, vs, rfl, r, q⟩ := p1
    obtain ⟨hf, hg⟩ := hg
    obtain ⟨j, hj, hg⟩ := onSome_iff.mp hg
    obtain ⟨d, hd, hg⟩ := onSome_iff.mp hg
    obtain ⟨v, g, ev, pv, sub⟩ := RpA.get _ _ _ j d r hd
    have : g = [] := List.eq_nil_iff_forall_not_mem.mpr fun a ha => by cases sub a ha
    subst this
    exact .inr ⟨a, _, vs, d2, j, v, rfl, q, p2.key (kFit_ck hf), hf, hj, ev, hq _ hg A H _ [] (Grow.same A H) pv⟩
  · exact .inl (h2 A H x y d1 d2 Q Qd al p1 p2 hg hq)
end
section
variable {B : Bs} {X : Cx} {pr : Nat → Option V} {tg : Expr} {wa : WD}
theorem Env.dic {A : Addr → Prop} {H : Hp} {σ : L2.St} {ρ : Rho} {F : List Addr} {i : Nat} {ks ds : List D} (en : Env B A H pr σ ρ F) (hi : ρ[i]? = some (some (.dic true ks ds))) : ∃ a vs, σ[i]? = some (some (.ref a)) ∧ DicAt B H a ks vs ∧ NoFz H a ∧ RpA B A H ds vs [] ∧
    ∀ ob ks' ds' vs', DicAt B (upd H a ob) a ks' vs' → NoFz (upd H a ob) a → RpA B A H ds' vs' [] → Env B A (upd H a ob) pr σ (ρ.set i (some (.dic true ks' ds'))) F ∧ Step A F H A F (upd H a ob) ∧ Stays A [a] H A (upd H a ob) := by
  obtain ⟨v, f1, g, f2, ev, rfl, p, back⟩ := EnvR.at_ ρ σ F i _ hi en.r
  rw [Rp] at p
  obtain ⟨a, vs, rfl, r, q, qa, rfl, nf⟩ := p
  refine ⟨a, vs, ev, q, nf, r, fun ob ks' ds' vs' q' nf' r' => ?_⟩
  have nd := en.nd
  have mu := q.mut nf
  have kp : Keep [a] H (upd H a ob) := by
    cases e : H a with
    | none => have := mu.1; rw [e] at this; exact this.elim
    | some u => exact Keep.set' (by simp) e (mu.2 u e)
  have st : Stays A [a] H A (upd H a ob) := ⟨kp, fun z hz => by simp at hz; subst hz; exact qa, fun z hz => .inl hz, fun z hz _ => hz⟩
  have n1 := List.nodup_append.mp nd
  have n2 := List.nodup_append.mp n1.1
  have off : ∀ z ∈ f1 ++ f2, z ≠ a := fun z hz e => by
    subst e
    rcases List.mem_append.mp hz with w | w
    · exact n2.2.2 z w z (by simp) rfl
    · exact n1.2.2 z (by simp) z w rfl
  have er := back A (upd H a ob) (.dic true ks' ds') (.ref a) [a] (fun rr ss hh e1 e2 => EnvR.stay st rr ss hh (fun z hz => by simp; exact off z (e2 z hz)) e1) (by rw [Rp]; exact ⟨a, vs', rfl, RpA.stay st _ _ _ (by simp) r', q', qa, rfl, nf'⟩)
  rw [set_same ev] at er
  refine ⟨⟨er, nd, fun z hz => ?_, en.pr⟩, ⟨kp.mono (by simp), fun z hz => .inl hz, fun z hz => .inl hz, fun z hz _ => hz⟩, st⟩
  by_cases hza : z = a
  · subst hza; rw [upd_same]; simp
  · rw [upd_ne hza]; exact en.al z hz
mutual
theorem ck_fz : ∀ d : D, d.ck.isSome = true → d.isFz = true
  | .non, _ => rfl
  | .bl _, _ => rfl
  | .int _, _ => rfl
  | .str _, _ => rfl
  | .tup ds, e => by
    rw [D.ck, Option.isSome_map] at e
    rw [D.isFz]
    exact ckA_fz ds e
  | .ty _, e => by cases e
  | .fn _, e => by cases e
  | .lst _ _, e => by cases e
  | .ins _ _ _ _, e => by cases e
  | .dic _ _ _, e => by cases e
  | .spring _, e => by cases e
  | .script, e => by cases e
theorem ckA_fz : ∀ ds : List D, (D.ckA ds).isSome = true → D.isFzA ds = true
  | [], _ => rfl
  | d :: ds, e => by
    rw [D.ckA] at e
    rw [D.isFzA]
    cases hd : D.ck d with
    | none => rw [hd] at e; cases e
    | some c =>
      cases hds : D.ckA ds with
      | none => rw [hd, hds] at e; cases e
      | some cs => rw [ck_fz d (by rw [hd]; rfl), ckA_fz ds (by rw [hds]; rfl)]; rfl
end
def isLD (d : D) (k : Prop) : Prop := match d with
  | .lst true _ => k
  | .dic true _ _ => k
  | _ => False
def gPutX (l j d : D) (k : D → Prop) : Prop := match l with
  | .lst true ds => onInt j fun j => onSome (ixN ds.length j) fun n => k (.lst true (ds.set n d))
  | .dic true ks ds => kFit ks j = true ∧ ks.length < 1000000 ∧ k (.dic true (putKs ks j) (putVs ks ds j d))
  | _ => False
/-- xs[i] = v, of a list or a dict -/
def gSetX (i : Nat) (w : WD) : WG := fun d ρ k => cond d.isFz (sl ρ i fun d0 => isLD d0 (w ρ (fun j ρ1 => sl ρ1 i fun l => gPutX l j d fun l' => k (ρ1.set i (some l'))) fun _ _ => False)) False
theorem PSet.or {t t' : TSet} (h : PSet X t) (h' : PSet X t') : PSet X (fun o i v H Q => t o i v H Q ∨ t' o i v H Q) := by
  intro pins s σ H o i v ov iv u Q I ro ri rv q
  rcases q with q | q
  · exact h pins s σ H o i v ov iv u Q I ro ri rv q
  · exact h' pins s σ H o i v ov iv u Q I ro ri rv q
theorem RpA.putVs {A : Addr → Prop} {H : Hp} {ks ds : List D} {vs : List V} {k d : D} {v : V} (r : RpA B A H ds vs []) (rv : Rp B A H d v []) : RpA B A H (DL.putVs ks ds k d) (DL.putVs ks vs k v) [] := by
  unfold DL.putVs
  cases dAt ks k with
  | some j => exact RpA.setAt rv ds vs j r
  | none => exact RpA.app _ _ _ _ _ _ r (rpa_of1 rv)
def onPair1 (k d : D) (r : D → Prop) : Prop := kFit [] k = true ∧ d.isFz = true ∧ r (.dic true [k] [d])
def wDict1 (wk wv : WD) : WD := fun ρ Q Xd => wk ρ (fun k ρ1 => wv ρ1 (fun d ρ2 => onPair1 k d fun r => Q r ρ2) Xd) Xd
theorem gInX_d {kd : Bool → D} {x : D} {o : Bool} {ks ds : List D} {k : D → Prop} : gInX kd x (.dic o ks ds) k = (kFit ks x = true ∧ k (kd (dAt ks x).isSome)) := rfl
theorem gInX_l {kd : Bool → D} {x : D} {o : Bool} {ds : List D} {k : D → Prop} : gInX kd x (.lst o ds) k = gIn kd x (.lst o ds) k := rfl
theorem gInX_t {kd : Bool → D} {x : D} {ds : List D} {k : D → Prop} : gInX kd x (.tup ds) k = gIn kd x (.tup ds) k := rfl
theorem gInX_s {kd : Bool → D} {x : D} {z : Str} {k : D → Prop} : gInX kd x (.str z) k = gIn kd x (.str z) k := rfl
theorem gIxX_d {x : D} {o : Bool} {ks ds : List D} {k : D → Prop} : gIxX (.dic o ks ds) x k = (kFit ks x = true ∧ onSome (dAt ks x) fun j => onSome (ds[j]?) k) := rfl
theorem gIxX_l {x : D} {o : Bool} {ds : List D} {k : D → Prop} : gIxX (.lst o ds) x k = gIx (.lst o ds) x k := rfl
theorem gIxX_t {x : D} {ds : List D} {k : D → Prop} : gIxX (.tup ds) x k = gIx (.tup ds) x k := rfl
theorem gIxX_s {x : D} {z : Str} {k : D → Prop} : gIxX (.str z) x k = gIx (.str z) x k := rfl
theorem gSetX_e {i : Nat} {w : WD} {d : D} {ρ : Rho} {k : Rho → Prop} : gSetX i w d ρ k = cond d.isFz (sl ρ i fun d0 => isLD d0 (w ρ (fun j ρ1 => sl ρ1 i fun l => gPutX l j d fun l' => k (ρ1.set i (some l'))) fun _ _ => False)) False := rfl
theorem isLD_l {ds : List D} {k : Prop} : isLD (.lst true ds) k = k := rfl
theorem isLD_d {ks ds : List D} {k : Prop} : isLD (.dic true ks ds) k = k := rfl
theorem gPutX_l {ds : List D} {j d : D} {k : D → Prop} : gPutX (.lst true ds) j d k = onInt j fun j => onSome (ixN ds.length j) fun n => k (.lst true (ds.set n d)) := rfl
theorem gPutX_d {ks ds : List D} {j d : D} {k : D → Prop} : gPutX (.dic true ks ds) j d k = (kFit ks j = true ∧ ks.length < 1000000 ∧ k (.dic true (putKs ks j) (putVs ks ds j d))) := rfl
theorem wDict1_e {wk wv : WD} {ρ : Rho} {Q : QD} {Xd : XD} : wDict1 wk wv ρ Q Xd = wk ρ (fun k ρ1 => wv ρ1 (fun d ρ2 => onPair1 k d fun r => Q r ρ2) Xd) Xd := rfl
theorem onPair1_e {k d : D} {r : D → Prop} : onPair1 k d r = (kFit [] k = true ∧ d.isFz = true ∧ r (.dic true [k] [d])) := rfl
def wDnew : WD := fun ρ Q _ => Q (.dic true [] []) ρ
theorem wDnew_e {ρ : Rho} {Q : QD} {Xd : XD} : wDnew ρ Q Xd = Q (.dic true [] []) ρ := rfl
end
end DL
namespace DL
open PySem PySem.Spec PyProof.Rows L2 PB
section
variable {B : Bs} {X : Cx} {pr : Nat → Option V} {W : WX} {a b : Expr} {p p' pos pos' : Pos} {wa wb : WD}
def onRg (x y : D) (k : D → Prop) : Prop := onInt x fun i => onInt y fun j => (j < 1000000 ∧ -1000000 ≤ j ∧ i < 1000000 ∧ -1000000 ≤ i) ∧ k (.lst true (rngD i (j - i).toNat))
def wListRg (wa wb : WD) : WD := fun ρ Q Xd => wa ρ (fun x ρ1 => wb ρ1 (fun y ρ2 => onRg x y fun l => Q l ρ2) Xd) Xd
theorem wListRg_e {ρ : Rho} {Q : QD} {Xd : XD} : wListRg wa wb ρ Q Xd = wa ρ (fun x ρ1 => wb ρ1 (fun y ρ2 => onRg x y fun l => Q l ρ2) Xd) Xd := rfl
theorem onRg_e {i j : Int} {k : D → Prop} : onRg (.int i) (.int j) k = ((j < 1000000 ∧ -1000000 ≤ j ∧ i < 1000000 ∧ -1000000 ≤ i) ∧ k (.lst true (rngD i (j - i).toNat))) := rfl
end
end DL
namespace DL
open PySem PySem.Spec PyProof.Rows L2 PB
section
variable {B : Bs} {X : Cx}
def idxD : List D → D → Option Nat
  | [], _ => none
  | d :: ds, x => if d.eqv x = true then some 0 else (idxD ds x).map (· + 1)
theorem flat_idx {A : Addr → Prop} {H : Hp} {x : D} {vx : V} (hx : SV x vx) : ∀ (ds : List D) (vs : List V) (g : List Addr) (j : Nat), ds.all D.flat = true → RpA B A H ds vs g → idxD ds x = some j → ∃ z, vs[j]? = some z ∧ eqV z vx = true ∧ ∀ (m : Nat) (z' : V), m < j → vs[m]? = some z' → eqV z' vx = false
  | [], _, _, _, _, _, h => by cases h
  | d :: ds, _, _, j, m, r, h => by
    rw [RpA] at r
    obtain ⟨v, vr, g1, g2, rfl, rfl, p, q⟩ := r
    rw [List.all_cons, Bool.and_eq_true] at m
    obtain ⟨a1, a2⟩ := flat_pk m.1 p.pk
    rw [idxD] at h
    by_cases e : d.eqv x = true
    · rw [if_pos e] at h
      cases h
      exact ⟨v, rfl, by rw [sv_eqv a2 hx]; exact e, fun m z' hm => absurd hm (by omega)⟩
    · rw [if_neg e] at h
      obtain ⟨i, hi, rfl⟩ := Option.map_eq_some_iff.mp h
      obtain ⟨z, h1, h2, h3⟩ := flat_idx hx ds vr g2 i m.2 q hi
      refine ⟨z, h1, h2, fun n z' hn hz => ?_⟩
      cases n with
      | zero => simp at hz; subst hz; rw [sv_eqv a2 hx]; simpa using e
      | succ n => exact h3 n z' (by omega) (by simpa using hz)
def isLx (d : D) (k : Prop) : Prop := match d with
  | .lst _ _ => k
  | _ => False
def hIdx (l : D) (as : List D) (k : D → Prop) : Prop := match l, as with
  | .lst _ ds, [y] => y.flat = true ∧ ds.all D.flat = true ∧ onSome (idxD ds y) fun j => k (.int (j : Nat))
  | _, _ => False
/-- xs.index(v) -/
def wIdx (i : Nat) (ws : List WD) : WD := fun ρ Q Xd => sl ρ i fun d0 => isLx d0 (wL ws ρ (fun as ρ1 => sl ρ1 i fun l => hIdx l as fun r => Q r ρ1) Xd)
variable {pr : Nat → Option V} {W : WX} {o e : Expr} {apos cpos : Pos} {ws : List WD}
theorem lst_pk {A : Addr → Prop} {H : Hp} {σ : L2.St} {ρ : Rho} {F : List Addr} {i : Nat} {b : Bool} {ds : List D} (en : Env B A H pr σ ρ F) (hi : ρ[i]? = some (some (.lst b ds))) : ∃ a vs, σ[i]? = some (some (.ref a)) ∧ H a = some (.lst vs) ∧ RpA B A H ds vs [] := by
  obtain ⟨v, g, ev, p⟩ := en.at_ hi
  obtain ⟨a, vs, rfl, q, r⟩ := p.pk
  exact ⟨a, vs, ev, q, r⟩
theorem lift_idx {i : Nat} {σ : L2.St} {H : Hp} {Q : VK} (hh : liftE B pr W (wIdx i ws) σ H Q) : tBM B.K "list" (rIndex B.K) (tVar i) (tWs B pr W ws) σ H Q := by
  obtain ⟨A, F, ρ, Qd, Xd, e, hh, hq, hx⟩ := hh
  obtain ⟨d0, hi, hh⟩ := sl_iff.mp hh
  cases d0 <;> first | exact hh.elim | skip
  obtain ⟨a, vs, ev, q, _⟩ := lst_pk e hi
  refine ⟨.ref a, ev, .inl ⟨rfl, vs, SqL.of q⟩, lift_ws ws e hh hx fun as ρ1 hd A0 F0 H0 xs f0 o0 => ?_⟩
  obtain ⟨l, hi1, hd⟩ := sl_iff.mp hd
  unfold hIdx at hd
  split at hd
  · rename_i b ds y
    obtain ⟨a1, vs1, ev1, q1, r1⟩ := lst_pk o0.env hi1
    rw [ev] at ev1
    cases ev1
    have ov := o0.val
    rw [RpA] at ov
    obtain ⟨v, vr, g1, g2, rfl, rfl, p, pr2⟩ := ov
    rw [RpA] at pr2
    obtain ⟨rfl, rfl⟩ := pr2
    obtain ⟨h1, h2, hd⟩ := hd
    obtain ⟨j, hj, hd⟩ := onSome_iff.mp hd
    obtain ⟨b1, b2⟩ := flat_pk h1 p.pk
    obtain ⟨z, c1, c2, c3⟩ := flat_idx b2 _ vs1 _ j h2 r1 hj
    have fl := (flat_kids b2 _ vs1 _ h2 r1).1
    exact ⟨a, vs1, v, j, z, rfl, rfl, SqL.of q1, b1, fl, c1, c2, c3, hq _ _ hd _ _ _ _ [] ⟨o0.step, o0.env, rp_int, by simpa using o0.env.nd, by simp⟩⟩
  · exact hd.elim
theorem de_idx {i : Nat} (ho : PE X o (tVar i)) (ha : DWs B X pr W [e] ws)
    (hbase : attributeBase o "index" X.env (eval o X.env) = eval o X.env := by rfl)
    (hfew : ((backTo cpos (starEach [e] X.env)).all (fun x => !x.1) && (backToKw cpos (keywordEach [] X.env)).all (fun x => x.1.isSome)
      && decide (([e] : List Expr).length + ([] : List Keyword).length + (if ([] : List Keyword).isEmpty then 0 else 1) < 30)) = true := by rfl)
    (hline : (apos.endLine == cpos.line) = true := by rfl) (hst : starEach [e] X.env = (false, eval e X.env) :: starEach [] X.env := by rfl) (hplain : (backTo cpos (starEach [] X.env)).any (·.1) = false := by rfl) (hK : X.K = B.K := by rfl) :
    DE B X pr W (.Call (.Attribute o "index" apos) [e] [] cpos) (wIdx i ws) := peW (pe_bmK PySem.F.plainAttrs_list PySem.F.slot_list_index PySem.F.type_list_index (show MtR X "list.index" (rIndex B.K) by rw [← hK]; exact mt_index) ho ha hbase hfew hline hst hplain hK) fun _ _ _ hh => lift_idx hh
theorem wIdx_e {i : Nat} {ρ : Rho} {Q : QD} {Xd : XD} : wIdx i ws ρ Q Xd = sl ρ i fun d0 => isLx d0 (wL ws ρ (fun as ρ1 => sl ρ1 i fun l => hIdx l as fun r => Q r ρ1) Xd) := rfl
theorem isLx_l {b : Bool} {ds : List D} {k : Prop} : isLx (.lst b ds) k = k := rfl
theorem hIdx_e {b : Bool} {ds : List D} {y : D} {k : D → Prop} : hIdx (.lst b ds) [y] k = (y.flat = true ∧ ds.all D.flat = true ∧ onSome (idxD ds y) fun j => k (.int (j : Nat))) := rfl
end
end DL
namespace DL
open PySem PySem.Spec PyProof.Rows L2 PB
end DL
namespace DL
open PySem PySem.Spec PyProof.Rows L2 PB
mutual
/-- the value u of the written part is the data d -/
def dIn (K : PySem.W.Frag) : D → Value → Bool
  | .non, u => (match u with | .none => true | _ => false)
  | .bl b, u => (match u with | .bool c => b == c | _ => false)
  | .int i, u => (match u with | .int j _ => decide (i = j) | _ => false)
  | .str x, u => (match u with | .str y _ => decide (x = y) | _ => false)
  | .tup ds, u => (match u with
    | .ref a => (match K.lookup a with
      | some ⟨.type c, _, .seq its _, _⟩ => decide (c = "tuple") && (decide (its.size ≤ sizeLine) && dInA K ds its.toList)
      | _ => false)
    | _ => false)
  | _, _ => false
def dInA (K : PySem.W.Frag) : List D → List Value → Bool
  | [], us => us.isEmpty
  | d :: ds, us => (match us with
    | u :: ur => dIn K d u && dInA K ds ur
    | [] => false)
end
end DL
namespace DL
open PySem PySem.Spec PyProof.Rows L2 PB
section
variable {B : Bs} {X : Cx}
def isFn (x : Str) (d : D) (k : Prop) : Prop := match d with
  | .fn y => y = x ∧ k
  | _ => False
def gInT (x : Str) (ks : List D) (kd : Bool → D) : D → D → (D → Prop) → Prop := fun k d Q => isFn x d (kFit ks k = true ∧ Q (kd (dAt ks k).isSome))
def gIxT (x : Str) (ks ds : List D) : D → D → (D → Prop) → Prop := fun d k Q => isFn x d (kFit ks k = true ∧ onSome (dAt ks k) fun j => onSome (ds[j]?) Q)
theorem isFn_e {x : Str} {k : Prop} : isFn x (.fn x) k = k := by simp [isFn]
theorem gInT_e {x : Str} {ks : List D} {kd : Bool → D} {k d : D} {Q : D → Prop} : gInT x ks kd k d Q = isFn x d (kFit ks k = true ∧ Q (kd (dAt ks k).isSome)) := rfl
theorem gIxT_e {x : Str} {ks ds : List D} {k d : D} {Q : D → Prop} : gIxT x ks ds d k Q = isFn x d (kFit ks k = true ∧ onSome (dAt ks k) fun j => onSome (ds[j]?) Q) := rfl
end
end DL
namespace PB
open PySem PySem.Spec PyProof.Rows L2
end PB
namespace DL
open PySem PySem.Spec PyProof.Rows L2 PB
section
variable {B : Bs} {X : Cx} {pr : Nat → Option V} {W : WX} {a e : Expr} {es : List Expr} {oa : Opd} {pos p : Pos}
def onOne (as : List Arg) (k : Arg → Prop) : Prop := match as with
  | [x] => k x
  | _ => False
def wOwn1 (c : Str) (s : DSp) (oa : Opd) : WD := fun ρ Q X => wArgs [oa] ρ (fun as ρ1 => onOne as fun x => argD x ρ1 (isC c) ∧ callK s [] [x] ρ1 Q X) X
theorem onOne_e {x : Arg} {k : Arg → Prop} : onOne [x] k = k x := rfl
theorem wOwn1_e {c : Str} {s : DSp} {ρ : Rho} {Q : QD} {Xd : XD} : wOwn1 c s oa ρ Q Xd = wArgs [oa] ρ (fun as ρ1 => onOne as fun x => argD x ρ1 (isC c) ∧ callK s [] [x] ρ1 Q Xd) Xd := rfl
end
end DL
namespace PB
open PySem PySem.Spec PyProof.Rows L2
end PB
namespace DL
open PySem PySem.Spec PyProof.Rows L2 PB
theorem atI_0 {α : Type} {a : α} {l : List α} : L2.atI (a :: l) 0 = some a := L2.atI_nat (j := 0) rfl
theorem atI_1 {α : Type} {a b : α} {l : List α} : L2.atI (a :: b :: l) 1 = some b := L2.atI_nat (j := 1) rfl
theorem atI_2 {α : Type} {a b c : α} {l : List α} : L2.atI (a :: b :: c :: l) 2 = some c := L2.atI_nat (j := 2) rfl
theorem atI_3 {α : Type} {a b c d : α} {l : List α} : L2.atI (a :: b :: c :: d :: l) 3 = some d := L2.atI_nat (j := 3) rfl
end DL
namespace DL
open PySem PySem.Spec PyProof.Rows L2 PB
def onZipN (ds : List D) (k : List D → List D → Prop) : Prop := match ds with
  | [.tup a, .lst _ b] => cond (D.isFzA a) (k a b) False
  | [.lst _ a, .tup b] => cond (D.isFzA b) (k a b) False
  | _ => False
def wiZipN (wa wb : WD) : WI := fun ρ Q X => wL [wa, wb] ρ (fun ds ρ1 => onZipN ds fun a b => Q (zipD a b) ρ1) X
theorem wiZipN_e {wa wb : WD} {ρ : Rho} {X : XD} {QI : List D → Rho → Prop} : wiZipN wa wb ρ QI X = wL [wa, wb] ρ (fun ds ρ1 => onZipN ds fun a b => QI (zipD a b) ρ1) X := rfl
theorem onZipN_t {a b : List D} {u : Bool} {k : List D → List D → Prop} : onZipN [.tup a, .lst u b] k = cond (D.isFzA a) (k a b) False := rfl
theorem onZipN_l {a b : List D} {u : Bool} {k : List D → List D → Prop} : onZipN [.lst u a, .tup b] k = cond (D.isFzA b) (k a b) False := rfl
end DL
namespace DL
open PySem PySem.Spec PyProof.Rows L2 PB
section
variable {α : Type} [DecidableEq α]
def firsts : List α → List α
  | [] => []
  | xs => xs.foldl (fun l x => if x ∈ l then l else l ++ [x]) []
end
def D.intsA : List D → Option (List Int)
  | [] => some []
  | .int i :: ds => (D.intsA ds).map (i :: ·)
  | _ :: _ => none
theorem intsA_map (ns : List Int) : D.intsA (ns.map .int) = some ns := by
  induction ns with
  | nil => rfl
  | cons n ns ih => rw [List.map_cons, D.intsA, ih]; rfl
section
variable {B : Bs} {X : Cx} {pr : Nat → Option V} {W : WX} {a e e2 o : Expr} {p p2 q pos apos cpos : Pos} {wa : WD} {ws : List WD}
def onIntL (d : D) (k : List Int → Prop) : Prop := match d with
  | .lst _ ds => onSome (D.intsA ds) k
  | _ => False
def wLenSet (w : WD) : WD := fun ρ Q X => w ρ (fun d ρ1 => onIntL d fun ns => ns.length ≤ 4000 ∧ Q (.int ((firsts ns).length : Nat)) ρ1) X
theorem wLenSet_e {ρ : Rho} {Q : QD} {Xd : XD} : wLenSet wa ρ Q Xd = wa ρ (fun d ρ1 => onIntL d fun ns => ns.length ≤ 4000 ∧ Q (.int ((firsts ns).length : Nat)) ρ1) Xd := rfl
theorem onIntL_e {b : Bool} {ns : List Int} {k : List Int → Prop} : onIntL (.lst b (ns.map .int)) k = k ns := by show onSome (D.intsA (ns.map .int)) k = k ns; rw [intsA_map, onSome_some]
def gLenX : List D → (D → Prop) → Prop := fun as Q => match as with
  | [.dic _ ks _] => Q (.int (ks.length : Nat))
  | as => gLen as Q
theorem gLenX_d {b : Bool} {ks ds : List D} {k : D → Prop} : gLenX [.dic b ks ds] k = k (.int (ks.length : Nat)) := rfl
theorem gLenX_l {b : Bool} {ds : List D} {k : D → Prop} : gLenX [.lst b ds] k = k (.int ds.length) := rfl
theorem gLenX_t {ds : List D} {k : D → Prop} : gLenX [.tup ds] k = k (.int ds.length) := rfl
def isDc (d : D) (k : Prop) : Prop := match d with
  | .dic true ks _ => ks ≠ [] ∧ ks.all D.isIS = true ∧ k
  | _ => False
def hGet (l : D) (as : List D) (k : D → Prop) : Prop := match l, as with
  | .dic true ks ds, [y, z] => ks ≠ [] ∧ ks.all D.isIS = true ∧ y.isIS = true ∧ z.isFz = true ∧ k (((dAt ks y).bind (ds[·]?)).getD z)
  | _, _ => False
def wGet (i : Nat) (ws : List WD) : WD := fun ρ Q Xd => sl ρ i fun d0 => isDc d0 (wL ws ρ (fun as ρ1 => sl ρ1 i fun l => hGet l as fun r => Q r ρ1) Xd)
theorem wGet_e {i : Nat} {ρ : Rho} {Q : QD} {Xd : XD} : wGet i ws ρ Q Xd = sl ρ i fun d0 => isDc d0 (wL ws ρ (fun as ρ1 => sl ρ1 i fun l => hGet l as fun r => Q r ρ1) Xd) := rfl
theorem isDc_e {ks ds : List D} {k : Prop} : isDc (.dic true ks ds) k = (ks ≠ [] ∧ ks.all D.isIS = true ∧ k) := rfl
theorem hGet_e {ks ds : List D} {y z : D} {k : D → Prop} : hGet (.dic true ks ds) [y, z] k = (ks ≠ [] ∧ ks.all D.isIS = true ∧ y.isIS = true ∧ z.isFz = true ∧ k (((dAt ks y).bind (ds[·]?)).getD z)) := rfl
end
end DL
namespace DL
open PySem PySem.Spec PyProof.Rows L2 PB
section
variable {α : Type} [DecidableEq α] {enc : α → D}
theorem dAt_enc (hi : ∀ a b, (enc a).ck = (enc b).ck → a = b) (xs : List α) (a : α) : dAt (xs.map enc) (enc a) = fI xs a := by
  unfold dAt
  rw [List.map_map]
  exact fI_map (f := fun a => (enc a).ck) hi a xs
theorem fI_getX {e : α} : ∀ {ws : List α} {j : Nat}, fI ws e = some j → ws[j]? = some e
  | [], j, h => by cases h
  | w :: ws, j, h => by
    by_cases q : w = e
    · rw [fI_pos q] at h; cases h; rw [q]; rfl
    · rw [fI_neg q] at h
      obtain ⟨i, hi, rfl⟩ := Option.map_eq_some_iff.mp h
      have := fI_getX hi
      simpa using this
theorem fI_memX {e : α} {ws : List α} (h : e ∈ ws) : ∃ j, fI ws e = some j ∧ ws[j]? = some e := by
  cases q : fI ws e with
  | none => exact absurd h (fI_none q)
  | some j => exact ⟨j, rfl, fI_getX q⟩
theorem kFit_encI (ht : ∀ a, (enc a).isIS = true) (ps : List α) (a : α) : kFit (ps.map enc) (enc a) = true := by
  unfold kFit
  have h1 : (ps.map enc).all D.isIS = true := List.all_eq_true.mpr fun x hx => by obtain ⟨q, _, rfl⟩ := List.mem_map.mp hx; exact ht q
  rw [h1, ht]
  simp
end
end DL
namespace DL
open PySem PySem.Spec PyProof.Rows L2 PB
def onTupF (d : D) (k : List D → Prop) : Prop := match d with
  | .tup ds => cond (D.isFzA ds) (k ds) False
  | _ => False
def wiEnumT (w : WD) : WI := fun ρ Q X => w ρ (fun d ρ1 => onTupF d fun ds => Q (ds.zipIdx.map fun p => .tup [.int (p.2 : Nat), p.1]) ρ1) X
section
variable {B : Bs} {X : Cx} {pr : Nat → Option V} {W : WX} {e : Expr} {pos p : Pos} {wa : WD}
theorem wiEnumT_e {ρ : Rho} {Q : List D → Rho → Prop} {Xd : XD} : wiEnumT wa ρ Q Xd = wa ρ (fun d ρ1 => onTupF d fun ds => Q (ds.zipIdx.map fun p => .tup [.int (p.2 : Nat), p.1]) ρ1) Xd := rfl
theorem onTupF_e {ds : List D} {k : List D → Prop} : onTupF (.tup ds) k = cond (D.isFzA ds) (k ds) False := rfl
end
end DL
namespace ZN
open PySem PySem.Spec PyProof.Rows L2 PB
/-- from H the pairs were laid as tuples -/
inductive Laid (H : Hp) : List (V × V) → List V → Hp → Prop
  | nil : Laid H [] [] H
  | put {ps : List (V × V)} {ts : List V} {G : Hp} {T : Addr} {x y : V} : Laid H ps ts G → G T = none → Laid H (ps ++ [(x, y)]) (ts ++ [.ref T]) (upd G T (.tup [x, y]))
theorem Laid.len {H G : Hp} {ps : List (V × V)} {ts : List V} (h : Laid H ps ts G) : ts.length = ps.length := by
  induction h with
  | nil => rfl
  | put _ _ ih => simp [ih]
/-- the zip at turn i: nothing was handed out, or what was is still there -/
def Zs (z TI TO i1 i2 S : Addr) (h : Heap) : Prop := IsPair h TI (.ref i1) (.ref i2) ∧ (∃ o, h.get? TO = some o) ∧ ((IsZip h z TI TO .none ∧ ∃ a b, IsPair h TO a b) ∨ ∃ T f oT, IsZipHeld h z TI TO T f ∧ h.get? T = some oT ∧ T ≠ z ∧ T ≠ i1 ∧ T ≠ i2 ∧ T ≠ S)
section
variable {X : Cx} {pins : List (Addr × Obj)} {σ : L2.St} {z TI TO i1 i2 l1 l2 S : Addr} {S1 S2 : Nat → Heap → Prop} {C1 C2 : Array Value → Heap → Prop} {H1 : Hp} {xs ys : List V} {us vs : List Value} {res : Value} {R : Result → Shared → Prop} {A : Around}
theorem Zs.keep {h h' : Heap} (q : Zs z TI TO i1 i2 S h) (zS : z ≠ S) (TIS : TI ≠ S) (TOS : TO ≠ S) (up : ∀ b o, b ≠ S → h.get? b = some o → h'.get? b = some o) : Zs z TI TO i1 i2 S h' := by
  obtain ⟨a, ⟨o, b⟩, c⟩ := q
  refine ⟨up _ _ TIS a, ⟨o, up _ _ TOS b⟩, ?_⟩
  rcases c with ⟨c, x, y, d⟩ | ⟨T, f, oT, c, d, n1, n2, n3, n4⟩
  · exact .inl ⟨up _ _ zS c, x, y, up _ _ TOS d⟩
  · exact .inr ⟨T, f, oT, up _ _ zS c, up _ _ n4 d, n1, n2, n3, n4⟩
end
end ZN
namespace DL
open PySem PySem.Spec PyProof.Rows L2 PB
def onListZip (ds : List D) (k : List D → List D → Prop) : Prop := match ds with
  | [.lst _ a, .tup b] => cond (D.isFzA b) (a.length ≤ 1000 ∧ k a b) False
  | _ => False
def wListZip (wa wb : WD) : WD := fun ρ Q X => wL [wa, wb] ρ (fun ds ρ1 => onListZip ds fun a b => Q (.lst true (zipD a b)) ρ1) X
theorem wListZip_e {wa wb : WD} {ρ : Rho} {X : XD} {QI : QD} : wListZip wa wb ρ QI X = wL [wa, wb] ρ (fun ds ρ1 => onListZip ds fun a b => QI (.lst true (zipD a b)) ρ1) X := rfl
theorem onListZip_e {a b : List D} {u : Bool} {k : List D → List D → Prop} : onListZip [.lst u a, .tup b] k = cond (D.isFzA b) (a.length ≤ 1000 ∧ k a b) False := rfl
end DL
namespace DL
open PySem PySem.Spec PyProof.Rows L2 PB
section
variable {B : Bs} {X : Cx} {pr : Nat → Option V} {W : WX} {a e : Expr} {oa : Opd} {pos p : Pos}
def wLenOwn (c : Str) (s : DSp) (oa : Opd) : WD := fun ρ Q X => wOwn1 c s oa ρ (fun d ρ1 => onInt d fun n => 0 ≤ n ∧ n < 2 ^ 63 ∧ Q (.int n) ρ1) X
theorem wLenOwn_e {c : Str} {s : DSp} {ρ : Rho} {Q : QD} {Xd : XD} : wLenOwn c s oa ρ Q Xd = wOwn1 c s oa ρ (fun d ρ1 => onInt d fun n => 0 ≤ n ∧ n < 2 ^ 63 ∧ Q (.int n) ρ1) Xd := rfl
end
end DL
namespace DL
open PySem PySem.Spec PyProof.Rows L2 PB
section
variable {B : Bs} {X : Cx} {pr : Nat → Option V} {W : WX} {a : Expr} {p p' pos pos' : Pos} {wa : WD}
def wListRg1 (wa : WD) : WD := fun ρ Q Xd => wa ρ (fun x ρ1 => onRg (.int 0) x fun l => Q l ρ1) Xd
theorem wListRg1_e {ρ : Rho} {Q : QD} {Xd : XD} : wListRg1 wa ρ Q Xd = wa ρ (fun x ρ1 => onRg (.int 0) x fun l => Q l ρ1) Xd := rfl
end
end DL
namespace DL
open PySem PySem.Spec PyProof.Rows L2 PB
/-- the list Dl that a comprehension fills, the slots τ -/
structure LcS (B : Bs) (A : Addr → Prop) (F : List Addr) (H : Hp) (pr : Nat → Option V) (τ : L2.St) (ρ : Rho) (Dl : Addr) (acc : List D) (ws : List V) : Prop where
  env : Env B A H pr τ ρ F
  aD : A Dl
  nD : Dl ∉ F
  hD : H Dl = some (.lst ws)
  ra : RpA B A H acc ws []
section
variable {B : Bs} {A A1 A5 A6 : Addr → Prop} {F F1 F5 F6 : List Addr} {H H1 H5 H6 : Hp} {pr : Nat → Option V} {τ τ6 τ' : L2.St} {ρ ρ6 : Rho} {Dl : Addr} {acc : List D} {ws : List V} {vs : List Nat}
theorem LcS.step (s : LcS B A F H pr τ ρ Dl acc ws) (t : Step A F H A6 F6 H6) (e : Env B A6 H6 pr τ6 ρ6 F6) : LcS B A6 F6 H6 pr τ6 ρ6 Dl acc ws :=
  ⟨e, t.ak Dl s.aD s.nD, fun z => (t.fo Dl z).elim s.nD (by rw [s.hD]; simp), t.keep.at_ _ _ s.nD s.hD, RpA.stay ⟨t.keep, s.env.fa, t.ao, t.ak⟩ _ _ _ (by simp) s.ra⟩
end
/-- the inner clause -/
def LcIn (items : List D) (g : WG) (t : WT) (e : WD) (vs1 : List Nat) (acc : List D) (ρ : Rho) (Nx : List D → Rho → Prop) : Prop := ∃ Iw : Nat → List D → Rho → Prop, Iw 0 acc (wipeD ρ vs1) ∧
  (∀ k d acc ρ', items[k]? = some d → Iw k acc ρ' → g d ρ' fun ρ2 => t ρ2 (fun b ρ3 => if b = true then e ρ3 (fun r ρ4 => acc.length < 1000000 ∧ cond r.mayFreeze (Iw (k + 1) (acc ++ [r.freeze]) (wipeD ρ4 vs1)) False) (fun _ _ => False) else Iw (k + 1) acc (wipeD ρ3 vs1)) fun _ _ => False) ∧
  ∀ acc ρ', Iw items.length acc ρ' → Nx acc ρ'
def LcOut (items : List D) (g : WG) (t : WT) (wi1 : WI) (g1 : WG) (t1 : WT) (e : WD) (vs vs1 : List Nat) (ρ1 : Rho) (Q : QD) : Prop := ∃ Iv : Nat → List D → Rho → Prop, Iv 0 [] (wipeD ρ1 vs) ∧
  (∀ k d acc ρ', items[k]? = some d → Iv k acc ρ' → g d ρ' fun ρ2 => t ρ2 (fun b ρ3 => if b = true then wi1 ρ3 (fun items1 ρ4 => LcIn items1 g1 t1 e vs1 acc ρ4 fun acc' ρ5 => Iv (k + 1) acc' (wipeD ρ5 vs)) (fun _ _ => False) else Iv (k + 1) acc (wipeD ρ3 vs)) fun _ _ => False) ∧
  ∀ acc ρ', Iv items.length acc ρ' → Q (.lst true acc) (wipeD ρ' vs)
def wLc2 (wi : WI) (g : WG) (t : WT) (wi1 : WI) (g1 : WG) (t1 : WT) (e : WD) (vs vs1 : List Nat) : WD := fun ρ Q X => wi ρ (fun items ρ1 => LcOut items g t wi1 g1 t1 e vs vs1 ρ1 Q) X
theorem wLc2_e {wi : WI} {g : WG} {t : WT} {wi1 : WI} {g1 : WG} {t1 : WT} {e : WD} {vs vs1 : List Nat} {ρ : Rho} {Q : QD} {X : XD} : wLc2 wi g t wi1 g1 t1 e vs vs1 ρ Q X = wi ρ (fun items ρ1 => LcOut items g t wi1 g1 t1 e vs vs1 ρ1 Q) X := rfl
end DL
namespace PB
open PySem PySem.Spec PyProof.Rows L2
end PB
namespace DL
open PySem PySem.Spec PyProof.Rows L2 PB
end DL
namespace DL
open PySem PySem.Spec PyProof.Rows L2 PB
section
variable {B : Bs} {X : Cx}
def gMax2 : List D → (D → Prop) → Prop
  | [.int i, .int j], Q => Q (.int (if j > i then j else i))
  | _, _ => False
theorem gMax2_e {i j : Int} {k : D → Prop} : gMax2 [.int i, .int j] k = k (.int (if j > i then j else i)) := rfl
def gIntL (k : List Int → (D → Prop) → Prop) : List D → (D → Prop) → Prop
  | [.lst _ ds], Q => match D.intsA ds with
    | some ns => k ns Q
    | none => False
  | _, _ => False
theorem gIntL_l {kl : List Int → (D → Prop) → Prop} {b : Bool} {ds : List D} {k : D → Prop} : gIntL kl [.lst b ds] k = onSome (D.intsA ds) fun ns => kl ns k := by cases h : D.intsA ds <;> simp [gIntL, onSome, h]
/-- xs * n -/
def gRep : D → D → (D → Prop) → Prop
  | .lst _ ds, .int n, Q => -(1000000) ≤ n ∧ n ≤ 1000000 ∧ ds.length * n.toNat ≤ 1000000 ∧ Q (.lst true (List.replicate n.toNat ds).flatten)
  | _, _, _ => False
theorem gRep_e {b : Bool} {ds : List D} {n : Int} {k : D → Prop} : gRep (.lst b ds) (.int n) k = (-(1000000) ≤ n ∧ n ≤ 1000000 ∧ ds.length * n.toNat ≤ 1000000 ∧ k (.lst true (List.replicate n.toNat ds).flatten)) := rfl
end
end DL
namespace DL
open PySem PySem.Spec PyProof.Rows L2 PB
/-- an int whose text may be written -/
def SmI (i : Int) : Prop := i.natAbs < 2 ^ 1900
theorem SmI.of {i : Int} (h : i.natAbs < 18446744073709551616) : SmI i := Nat.lt_of_lt_of_le h (by
  have : (18446744073709551616 : Nat) = 2 ^ 64 := by decide
  rw [this]
  exact Nat.pow_le_pow_right (by decide) (by decide))
/-- all texts -/
def D.strsA : List D → Option (List Str)
  | [] => some []
  | .str b :: ds => (D.strsA ds).map (b :: ·)
  | _ :: _ => none
/-- a text's method of one argument -/
def wM1 (g : Str → D → (D → Prop) → Prop) (wa wb : WD) : WD := fun ρ Q X => wa ρ (fun d1 ρ1 => onStr d1 fun a => wb ρ1 (fun d2 ρ2 => g a d2 fun d => Q d ρ2) X) X
def gSplit (a : Str) (d : D) (k : D → Prop) : Prop := onStr d fun b => 0 < b.length ∧ a.length ≤ 1000000 ∧ k (.lst true ((Txt.split a b).map .str))
def gPart (a : Str) (d : D) (k : D → Prop) : Prop := onStr d fun b => 0 < b.length ∧ a.length ≤ 1000000 ∧ k (.tup [.str (Txt.partition a b).1, .str (Txt.partition a b).2.1, .str (Txt.partition a b).2.2])
def gJoin (a : Str) (d : D) (k : D → Prop) : Prop := onSeqS d fun ys => (ys.map (·.length)).sum + ys.length * a.length ≤ 1000000 ∧ k (.str (Str.join a ys))
where onSeqS (d : D) (k : List Str → Prop) : Prop := match d with
  | .lst _ ds => onSome (D.strsA ds) k
  | .tup ds => onSome (D.strsA ds) k
  | _ => False
/-- the parts of an f-text -/
def wFmt (w : WD) : WD := fun ρ Q X => w ρ (fun d ρ1 => match d with
  | .str y => y.length ≤ 1000000 ∧ Q (.str y) ρ1
  | .int i => SmI i ∧ Q (.str (toString i)) ρ1
  | _ => False) X
def wJs : List WD → Str → Rho → (Str → Rho → Prop) → XD → Prop
  | [], acc, ρ, Q, _ => Q acc ρ
  | w :: ws, acc, ρ, Q, X => w ρ (fun d ρ1 => onStr d fun y => (acc ++ y).length ≤ 1000000 ∧ wJs ws (acc ++ y) ρ1 Q X) X
def wJoined (ws : List WD) : WD := fun ρ Q X => wJs ws Str.empty ρ (fun s ρ1 => Q (.str s) ρ1) X
section
variable {B : Bs} {X : Cx} {pr : Nat → Option V} {W : WX} {a b e o : Expr} {es : List Expr} {oa : Opd} {wa wb : WD} {ws : List WD} {pos p apos : Pos}
/-- str(i), int(text) -/
def gStrI : List D → (D → Prop) → Prop
  | [.int i], Q => SmI i ∧ Q (.str (toString i))
  | [.str s], Q => Q (.str s)
  | _, _ => False
def gIntS : List D → (D → Prop) → Prop
  | [.str a], Q => onSome (PySem.intText? a) fun n => a.length ≤ 640 ∧ Q (.int n)
  | _, _ => False
/-- a sign in a text -/
def gSign (kd : Bool → D) : D → D → (D → Prop) → Prop
  | .str x, .str y, Q => ∃ c : Nat, x = ⟨#[c]⟩ ∧ Q (kd (decide (c ∈ y.cps.toList)))
  | _, _, _ => False
/-- str(x) of an own object -/
def wStrOwn (c : Str) (s : DSp) (oa : Opd) : WD := fun ρ Q X => wOwn1 c s oa ρ (fun d ρ1 => onStr d fun n => Q (.str n) ρ1) X
theorem wStrOwn_e {c : Str} {s : DSp} {ρ : Rho} {Q : QD} {Xd : XD} : wStrOwn c s oa ρ Q Xd = wOwn1 c s oa ρ (fun d ρ1 => onStr d fun n => Q (.str n) ρ1) Xd := rfl
end
section
variable {a b : Str} {ds : List D} {i : Int} {k : D → Prop} {o : Bool} {wa wb : WD} {ρ : Rho} {Q : QD} {X : XD} {ws : List WD}
theorem wM1_e {g : Str → D → (D → Prop) → Prop} : wM1 g wa wb ρ Q X = wa ρ (fun d1 ρ1 => onStr d1 fun a => wb ρ1 (fun d2 ρ2 => g a d2 fun d => Q d ρ2) X) X := rfl
theorem gSplit_e : gSplit a (.str b) k = (0 < b.length ∧ a.length ≤ 1000000 ∧ k (.lst true ((Txt.split a b).map .str))) := rfl
theorem gPart_e : gPart a (.str b) k = (0 < b.length ∧ a.length ≤ 1000000 ∧ k (.tup [.str (Txt.partition a b).1, .str (Txt.partition a b).2.1, .str (Txt.partition a b).2.2])) := rfl
theorem gJoin_l : gJoin a (.lst o ds) k = onSome (D.strsA ds) fun ys => (ys.map (·.length)).sum + ys.length * a.length ≤ 1000000 ∧ k (.str (Str.join a ys)) := rfl
theorem gJoin_t : gJoin a (.tup ds) k = onSome (D.strsA ds) fun ys => (ys.map (·.length)).sum + ys.length * a.length ≤ 1000000 ∧ k (.str (Str.join a ys)) := rfl
def onFmt (d : D) (k : Str → Prop) : Prop := match d with
  | .str y => y.length ≤ 1000000 ∧ k y
  | .int i => SmI i ∧ k (toString i)
  | _ => False
theorem onFmt_s {k : Str → Prop} : onFmt (.str a) k = (a.length ≤ 1000000 ∧ k a) := rfl
theorem onFmt_i {k : Str → Prop} : onFmt (.int i) k = (SmI i ∧ k (toString i)) := rfl
theorem wFmt_e : wFmt wa ρ Q X = wa ρ (fun d ρ1 => onFmt d fun y => Q (.str y) ρ1) X := by
  unfold wFmt onFmt
  congr 1
theorem wJs_n {acc : Str} {Q : Str → Rho → Prop} : wJs [] acc ρ Q X = Q acc ρ := rfl
theorem wJs_c {acc : Str} {Q : Str → Rho → Prop} : wJs (wa :: ws) acc ρ Q X = wa ρ (fun d ρ1 => onStr d fun y => (acc ++ y).length ≤ 1000000 ∧ wJs ws (acc ++ y) ρ1 Q X) X := rfl
theorem wJoined_e : wJoined ws ρ Q X = wJs ws Str.empty ρ (fun s ρ1 => Q (.str s) ρ1) X := rfl
theorem gStrI_i : gStrI [.int i] k = (SmI i ∧ k (.str (toString i))) := rfl
theorem gStrI_s : gStrI [.str a] k = k (.str a) := rfl
theorem gIntS_e : gIntS [.str a] k = onSome (PySem.intText? a) fun n => a.length ≤ 640 ∧ k (.int n) := rfl
theorem gSign_e {kd : Bool → D} {c : Nat} : gSign kd (.str ⟨#[c]⟩) (.str b) k = k (kd (decide (c ∈ b.cps.toList))) := by
  show (∃ c' : Nat, (⟨#[c]⟩ : Str) = ⟨#[c']⟩ ∧ k (kd (decide (c' ∈ b.cps.toList)))) = _
  apply propext
  constructor
  · rintro ⟨c', e, h⟩
    have : c = c' := by simpa using e
    subst this
    exact h
  · intro h
    exact ⟨c, rfl, h⟩
end
end DL
namespace DL
open PySem PySem.Spec PyProof.Rows L2 PB
def wiEnumV (i : Nat) : WI := fun ρ Q _ => sl ρ i fun d => cond d.isFz (onSeq d fun ds => Q (ds.zipIdx.map fun p => .tup [.int (p.2 : Nat), p.1]) ρ) False
section
variable {B : Bs} {X : Cx} {pr : Nat → Option V} {W : WX} {e : Expr} {pos p : Pos}
theorem wiEnumV_e {i : Nat} {ρ : Rho} {Q : List D → Rho → Prop} {Xd : XD} : wiEnumV i ρ Q Xd = sl ρ i fun d => cond d.isFz (onSeq d fun ds => Q (ds.zipIdx.map fun p => .tup [.int (p.2 : Nat), p.1]) ρ) False := rfl
end
end DL
namespace PB
open PySem PySem.Spec PyProof.Rows L2
end PB
namespace PB
open PySem PySem.Spec PyProof.Rows L2
/-- where no error is to come: a callee that may let one out -/
theorem pasF {X : Cx} : ∀ σ, PassesAt (L2.CX X.prog X.w) X σ (WE W0 σ) := fun σ pins H s e s' I c => by
  obtain ⟨_, _, _, _, _, _, _, _, _, _, _, _, h⟩ := c
  exact h.elim
/-- which own error class is caught by which -/
def ExmI (K : PySem.W.Frag) (cs hs : List Str) : Prop := ∀ c ∈ cs, ∀ d ∈ hs, PySem.W.exmOne K (.ref (He.ga K c)) (.ref (He.ga K d)) = some (c == d || d == "PairError")
def exmB (cs hs : List Str) (K : PySem.W.Frag) : Bool := cs.all fun c => hs.all fun d => PySem.W.exmOne K (.ref (He.ga K c)) (.ref (He.ga K d)) == some (c == d || d == "PairError")
theorem exm_of {cs hs : List Str} {K : PySem.W.Frag} (h : exmB cs hs K = true) : ExmI K cs hs := fun c hc d hd => by
  unfold exmB at h
  exact eq_of_beq (List.all_eq_true.mp (List.all_eq_true.mp h c hc) d hd)
end PB
namespace DL
open PySem PySem.Spec PyProof.Rows L2 PB
def sRaise (x : DX) : WS := fun E ρ => E.xx x ρ
/-- what the clause of own class c says of an error: cs the own classes that may come -/
def mOwn (cs : List Str) (c : Str) : DX → Option Bool
  | .own d => if cs.contains d then some (d == c || c == "PairError") else none
  | .fld d _ _ => if cs.contains d then some (d == c || c == "PairError") else none
  | .blt _ => none
def noX (E : DEnds) : DEnds := { E with xx := fun _ _ => False }
def sTry (m : DX → Option Bool) (s u : WS) : WS := fun E ρ => s { E with xx := fun x ρ' => onSome (m x) fun b => if b = true then u (noX E) ρ' else E.xx x ρ' } ρ
def xns : DX → List Str
  | .fld _ ns _ => ns
  | _ => []
def xds : DX → List D
  | .fld _ _ ds => ds
  | _ => []
def XC (B : Bs) (x : DX) (cls : Value) (d : Option Addr) : Prop := match x with
  | .own c => cls = .ref (He.ga B.K c) ∧ d = none
  | .fld c _ _ => cls = .ref (He.ga B.K c)
  | .blt n => cls = .type n
def sTryAs (B : Bs) (m : DX → Option Bool) (i : Nat) (s : WS) (u : Addr → DX → WS) : WS := fun E ρ => s { E with xx := fun x ρ' => onSome (m x) fun b => if b = true then ∀ a cls d, XC B x cls d → u a x { noX E with nx := fun ρ2 => E.nx (ρ2.set i none), bk := fun ρ2 => E.bk (ρ2.set i none), ct := fun ρ2 => E.ct (ρ2.set i none), rt := E.rt } (ρ'.set i (some (.exc a cls d (xns x) (xds x)))) else E.xx x ρ' } ρ
section
variable {B : Bs} {X : Cx} {pr : Nat → Option V} {W : WX} {x c : Str} {p np pos pos' : Pos} {body suite : List Stmt} {b₀ : Stmt} {s u : WS} {cs hs : List Str}
theorem mOwn_ok {A : Addr → Prop} {H : Hp} {y : DX} {cls : Value} {d : Option Addr} {b : Bool} (T : ExmI B.K cs [c]) (r : XR B A H y cls d) (h : mOwn cs c y = some b) : PySem.W.exmOne B.K cls (.ref (He.ga B.K c)) = some b := by
  cases y with
  | own e =>
    obtain ⟨rfl, rfl⟩ := r
    simp only [mOwn] at h
    split at h
    · rename_i hc
      cases h
      exact T e (List.contains_iff_mem.mp hc) c (by simp)
    · cases h
  | fld e ns ds =>
    obtain ⟨rfl, _⟩ := r
    simp only [mOwn] at h
    split at h
    · rename_i hc
      cases h
      exact T e (List.contains_iff_mem.mp hc) c (by simp)
    · cases h
  | blt n => cases h
end
section
variable {ρ : Rho} {E : DEnds} {s u : WS} {x : DX} {m : DX → Option Bool} {i : Nat} {v : Addr → DX → WS} {B : Bs} {c d : Str} {cs ns : List Str} {ds : List D}
theorem sRaise_e : sRaise x E ρ = E.xx x ρ := rfl
theorem sTry_e : sTry m s u E ρ = s { E with xx := fun x ρ' => onSome (m x) fun b => if b = true then u (noX E) ρ' else E.xx x ρ' } ρ := rfl
theorem sTryAs_e : sTryAs B m i s v E ρ = s { E with xx := fun x ρ' => onSome (m x) fun b => if b = true then ∀ a cls d, XC B x cls d → v a x { noX E with nx := fun ρ2 => E.nx (ρ2.set i none), bk := fun ρ2 => E.bk (ρ2.set i none), ct := fun ρ2 => E.ct (ρ2.set i none), rt := E.rt } (ρ'.set i (some (.exc a cls d (xns x) (xds x)))) else E.xx x ρ' } ρ := rfl
theorem mOwn_f : mOwn cs c (.fld d ns ds) = if cs.contains d then some (d == c || c == "PairError") else none := rfl
theorem noX_e : noX E = { E with xx := fun _ _ => False } := rfl
end
end DL
namespace PB
open PySem PySem.Spec PyProof.Rows L2
end PB
namespace DL
open PySem PySem.Spec PyProof.Rows L2 PB
end DL
namespace DL
open PySem PySem.Spec PyProof.Rows L2 PB
def dflB (f : Str × Option Str) (i : Nat) (d : D) (K : PySem.W.Frag) : Bool := dIn K d (.ref (He.dflAt f i K))
end DL
namespace DL
open PySem PySem.Spec PyProof.Rows L2 PB
/-- what may stand at the place of a dict -/
def DkO (x : Option HO) : Prop := (∃ kvs, x = some (.dK kvs)) ∨ (∃ φ, x = some (.ext φ)) ∨ (∃ o kvs, x = some (.frz o (.dK kvs))) ∨ ∃ o φ, x = some (.frz o (.ext φ))
/-- H' is H but for the dict at d, which is locked in one of them -/
structure Sw (A : Addr → Prop) (d : Addr) (H H' : Hp) : Prop where
  off : ∀ a, a ≠ d → H' a = H a
  dk : DkO (H d)
  rd : ∀ u, (∃ kvs, u = HO.dK kvs) ∨ (∃ φ, u = HO.ext φ) → Rd H d u → Rd H' d u
  na : ¬ A d
section
variable {B : Bs} {A : Addr → Prop} {d : Addr} {H H' : Hp}
theorem Sw.at_ (s : Sw A d H H') {a : Addr} {u : HO} (e : H a = some u) (n : ¬ DkO (some u)) : H' a = some u := by
  rw [s.off a fun z => n (by subst z; rw [← e]; exact s.dk)]
  exact e
theorem nd_tup {vs : List V} : ¬ DkO (some (.tup vs)) := by rintro (⟨_, h⟩ | ⟨_, h⟩ | ⟨_, _, h⟩ | ⟨_, _, h⟩) <;> cases h
theorem nd_ftup {o : Obj} {vs : List V} : ¬ DkO (some (.frz o (.tup vs))) := by rintro (⟨_, h⟩ | ⟨_, h⟩ | ⟨_, _, h⟩ | ⟨_, _, h⟩) <;> cases h
theorem Sw.seqT (s : Sw A d H H') {K : PySem.W.Frag} {a : Addr} {vs : List V} (h : SqT K H a vs) : SqT K H' a vs := by
  rcases h with (h | ⟨o, h⟩) | h
  · exact .inl (.inl (s.at_ h nd_tup))
  · exact .inl (.inr ⟨o, s.at_ h nd_ftup⟩)
  · exact .inr h
end
def onDicF (d : D) (k : List D → List D → Prop) : Prop := match d with
  | .dic _ ks ds => ks ≠ [] ∧ ks.all D.isIS = true ∧ k ks ds
  | _ => False
theorem onDicF_e {o : Bool} {ks ds : List D} {k : List D → List D → Prop} : onDicF (.dic o ks ds) k = (ks ≠ [] ∧ ks.all D.isIS = true ∧ k ks ds) := rfl
/-- the keys of the dict in slot j, which is frozen -/
def sForD (j : Nat) (g : WG) (s : WS) : WS := fun E ρ => sl ρ j fun d => onDicF d fun ks ds => ForG ks g s (noX E) (ρ.set j (some (.dic false ks ds)))
section
variable {B : Bs} {X : Cx} {pr : Nat → Option V} {W : WX} {tg it : Expr} {pos : Pos} {body : List Stmt} {s : WS} {g : WG} {L : List Nat}
theorem sForD_e {j : Nat} {E : DEnds} {ρ : Rho} : sForD j g s E ρ = sl ρ j fun d => onDicF d fun ks ds => ForG ks g s (noX E) (ρ.set j (some (.dic false ks ds))) := rfl
end
end DL
namespace DL
open PySem PySem.Spec PyProof.Rows L2 PB
/-- keys that go with those ahead of them and are new -/
def fitNew : List D → List D → Bool
  | _, [] => true
  | ks, k :: r => kFit ks k && ((dAt ks k).isNone && (decide (ks.length < 1000) && fitNew (ks ++ [k]) r))
section
variable {B : Bs} {X : Cx}
/-- the values of a list y, z, y', z', .. : keys and values -/
inductive Alt (B : Bs) (H : Hp) : List D → List V → List V → Prop
  | nil : Alt B H [] [] []
  | cons {k : D} {y z : V} {ks : List D} {zs us : List V} (h : KeyR B H k y) (r : Alt B H ks zs us) : Alt B H (k :: ks) (z :: zs) (y :: z :: us)
theorem Alt.imm {F : List Addr} {H H' : Hp} (hk : Keep F H H') {ks : List D} {zs us : List V} (h : Alt B H ks zs us) : Alt B H' ks zs us := by
  induction h with
  | nil => exact .nil
  | cons h _ ih => exact .cons (KeyR.imm hk _ _ h) ih
end
def evs : List D → List D
  | k :: _ :: r => k :: evs r
  | _ => []
def ods : List D → List D
  | _ :: d :: r => d :: ods r
  | _ => []
def onPairs (ds : List D) (k : D → Prop) : Prop := ds.length = 2 * (evs ds).length ∧ (fitNew [] (evs ds) = true ∧ (D.isFzA (evs ds) = true ∧ (D.mayFreezeA ds = true ∧ k (.dic true (evs ds) (D.freezeA (ods ds))))))
def wDictN (ws : List WD) : WD := fun ρ Q Xd => wL ws ρ (fun ds ρ1 => onPairs ds fun r => Q r ρ1) Xd
section
variable {B : Bs} {X : Cx} {pr : Nat → Option V} {W : WX} {k v : Expr} {keys : List (Option Expr)} {vals : List Expr} {wk wv : WD} {ws : List WD}
theorem wDictN_e {ρ : Rho} {Q : QD} {Xd : XD} : wDictN ws ρ Q Xd = wL ws ρ (fun ds ρ1 => onPairs ds fun r => Q r ρ1) Xd := rfl
theorem onPairs_e {ds : List D} {k : D → Prop} : onPairs ds k = (ds.length = 2 * (evs ds).length ∧ (fitNew [] (evs ds) = true ∧ (D.isFzA (evs ds) = true ∧ (D.mayFreezeA ds = true ∧ k (.dic true (evs ds) (D.freezeA (ods ds))))))) := rfl
end
end DL
namespace PB
open PySem PySem.Spec PyProof.Rows L2
end PB
namespace DL
open PySem PySem.Spec PyProof.Rows L2 PB
def wMakeK (c : Str) (s : DSp) (dfl : List D) (os : List Opd) : WD := fun ρ Q _ => wMake c s dfl os ρ Q fun _ _ => False
section
variable {B : Bs} {X : Cx} {pr : Nat → Option V} {W : WX} {k : Nat} {c : Str} {ps ks : List Str} {dvs : List V} {dfl : List D} {s : DSp} {p pos : Pos} {os : List Opd} {kws : List Keyword} {f : Addr} {fd : FuncData} {g : List Value → List Value → List Value}
theorem wMakeK_e {ρ : Rho} {Q : QD} {Xd : XD} : wMakeK c s dfl os ρ Q Xd = wMake c s dfl os ρ Q fun _ _ => False := rfl
end
end DL
namespace DL
open PySem PySem.Spec PyProof.Rows L2 PB
def LcGB (items : List D) (g : WG) (e : WD) (vs : List Nat) (ρ1 : Rho) (Q : QD) : Prop := ∃ Iv : Nat → List D → Rho → Prop, Iv 0 [] (wipeD ρ1 vs) ∧
  (∀ k d acc ρ', items[k]? = some d → Iv k acc ρ' → g d ρ' fun ρ2 => e ρ2 (fun r ρ4 => acc.length < 1000000 ∧ Iv (k + 1) (acc ++ [r]) (wipeD ρ4 vs)) fun _ _ => False) ∧
  ∀ acc ρ', Iv items.length acc ρ' → Q (.box acc) (wipeD ρ' vs)
def wLcB (wi : WI) (g : WG) (e : WD) (vs : List Nat) : WD := fun ρ Q X => wi ρ (fun items ρ1 => LcGB items g e vs ρ1 Q) X
theorem wLcB_e {wi : WI} {g : WG} {e : WD} {vs : List Nat} {ρ : Rho} {Q : QD} {X : XD} : wLcB wi g e vs ρ Q X = wi ρ (fun items ρ1 => LcGB items g e vs ρ1 Q) X := rfl
section
variable {B : Bs} {A A1 A5 A6 : Addr → Prop} {F F1 F5 F6 : List Addr} {H H1 H5 H6 : Hp} {pr : Nat → Option V} {τ τ6 τ' : L2.St} {ρ ρ6 : Rho} {Dl : Addr} {acc : List D} {ws : List V} {vs : List Nat} {G : List Addr}
structure LcB (B : Bs) (A : Addr → Prop) (F : List Addr) (H : Hp) (pr : Nat → Option V) (τ : L2.St) (ρ : Rho) (Dl : Addr) (acc : List D) (ws : List V) (G : List Addr) : Prop where
  env : Env B A H pr τ ρ F
  aD : A Dl
  hD : H Dl = some (.lst ws)
  ra : RpA B A H acc ws G
  nd : (Dl :: G ++ F).Nodup
theorem LcB.nD (s : LcB B A F H pr τ ρ Dl acc ws G) : Dl ∉ F := fun z => by
  have := s.nd
  rw [List.cons_append, List.nodup_cons] at this
  exact this.1 (List.mem_append_right _ z)
theorem LcB.step (s : LcB B A F H pr τ ρ Dl acc ws G) (t : Step A F H A6 F6 H6) (e : Env B A6 H6 pr τ6 ρ6 F6) : LcB B A6 F6 H6 pr τ6 ρ6 Dl acc ws G := by
  have n0 := s.nd
  rw [List.cons_append, List.nodup_cons, List.nodup_append] at n0
  have hG := RpA.own _ _ _ s.ra
  have dis : ∀ a ∈ G, a ∉ F := fun a ha hb => n0.2.2.2 a ha a hb rfl
  refine ⟨e, t.ak Dl s.aD s.nD, t.keep.at_ _ _ s.nD s.hD, RpA.stay ⟨t.keep, s.env.fa, t.ao, t.ak⟩ _ _ _ dis s.ra, ?_⟩
  rw [List.cons_append, List.nodup_cons, List.nodup_append]
  refine ⟨fun z => ?_, n0.2.1, e.nd, fun a ha b hb z => ?_⟩
  · rcases List.mem_append.mp z with z | z
    · exact n0.1 (List.mem_append_left _ z)
    · exact (t.fo Dl z).elim s.nD (by rw [s.hD]; simp)
  · subst z
    exact (t.fo a hb).elim (dis a ha) (hG a ha).2
end
section
variable {B : Bs} {X : Cx} {pr : Nat → Option V} {W : WX} {elt iter tg it a b c e : Expr} {pos p p2 : Pos} {wa wb : WD} {g : WG} {wi : WI} {L : List Nat} {scope : Scope} {own : List (Str × Nat)}
/-- an index that does nothing: a constant or a slot -/
inductive IxO where
  | c (i : Int)
  | v (k : Nat)
def ixO (o : IxO) (ρ : Rho) (k : Int → Prop) : Prop := match o with
  | .c i => k i
  | .v n => sl ρ n fun d => onInt d k
theorem ixO_c {i : Int} {ρ : Rho} {k : Int → Prop} : ixO (.c i) ρ k = k i := rfl
theorem ixO_v {n : Nat} {ρ : Rho} {k : Int → Prop} : ixO (.v n) ρ k = sl ρ n fun d => onInt d k := rfl
/-- an item of what is held -/
theorem RpA.at_ {A : Addr → Prop} {H : Hp} : ∀ (ds : List D) (vs : List V) (f : List Addr) (n : Nat) (d : D), ds[n]? = some d → RpA B A H ds vs f → ∃ v f1 g f2, vs[n]? = some v ∧ f = f1 ++ g ++ f2 ∧ Rp B A H d v g ∧
    ∀ A' H' d' g', (∀ es us h, RpA B A H es us h → (∀ a ∈ h, a ∈ f1 ++ f2) → RpA B A' H' es us h) → Rp B A' H' d' v g' → RpA B A' H' (ds.set n d') vs (f1 ++ g' ++ f2)
  | [], _, _, n, d, h, _ => by simp at h
  | d0 :: ds, _, f, 0, d, h, r => by
    rw [RpA] at r
    obtain ⟨v, vr, g, k, rfl, rfl, p, q⟩ := r
    simp at h
    subst h
    refine ⟨v, [], g, k, rfl, by simp, p, fun A' H' d' g' st p' => ?_⟩
    rw [List.set_cons_zero, RpA]
    exact ⟨v, vr, g', k, rfl, by simp, p', st ds vr k q (by simp)⟩
  | d0 :: ds, _, f, n + 1, d, h, r => by
    rw [RpA] at r
    obtain ⟨v0, vr, g0, k, rfl, rfl, p0, q⟩ := r
    obtain ⟨v, f1, g, f2, e1, rfl, p, back⟩ := RpA.at_ ds vr k n d (by simpa using h) q
    refine ⟨v, g0 ++ f1, g, f2, by simpa using e1, by simp, p, fun A' H' d' g' st p' => ?_⟩
    rw [List.set_cons_succ, RpA]
    have p0' : Rp B A' H' d0 v0 g0 := by
      have := st [d0] [v0] g0 (by rw [RpA]; exact ⟨v0, [], g0, [], rfl, by simp, p0, by rw [RpA]; exact ⟨rfl, rfl⟩⟩) (fun a ha => by simp [ha])
      rw [RpA] at this
      obtain ⟨v1, vr1, g1, k1, e1, e2, p1, q1⟩ := this
      cases e1
      rw [RpA] at q1
      obtain ⟨_, rfl⟩ := q1
      rw [List.append_nil] at e2
      subst e2
      exact p1
    refine ⟨v0, vr, g0, f1 ++ g' ++ f2, rfl, by simp, p0', back A' H' d' g' (fun es us h r hs => st es us h r fun a ha => ?_) p'⟩
    have := hs a ha
    simp at this ⊢
    rcases this with z | z <;> simp [z]
def onBox (d : D) (k : List D → Prop) : Prop := match d with
  | .box ds => k ds
  | _ => False
def onLs2 (d : D) (k : Bool → List D → Prop) : Prop := match d with
  | .lst o ds => k o ds
  | _ => False
theorem onBox_e {ds : List D} {k : List D → Prop} : onBox (.box ds) k = k ds := rfl
theorem onLstB_e {o : Bool} {ds : List D} {k : Bool → List D → Prop} : onLs2 (.lst o ds) k = k o ds := rfl
def wIxB (x : Nat) (oi oj : IxO) : WD := fun ρ Q _ => sl ρ x fun d => onBox d fun ds => ixO oi ρ fun i => ixO oj ρ fun j => onSome (atI ds i) fun it => onLs2 it fun _ es => onSome (atI es j) fun r => cond r.isFz (Q r ρ) False
theorem wIxB_e {x : Nat} {oi oj : IxO} {ρ : Rho} {Q : QD} {Xd : XD} : wIxB x oi oj ρ Q Xd = sl ρ x fun d => onBox d fun ds => ixO oi ρ fun i => ixO oj ρ fun j => onSome (atI ds i) fun it => onLs2 it fun _ es => onSome (atI es j) fun r => cond r.isFz (Q r ρ) False := rfl
/-- x[i][j] = v -/
def gSetB (x : Nat) (oi oj : IxO) : WG := fun d ρ k => cond d.isFz (sl ρ x fun l => onBox l fun ds => ixO oi ρ fun i => ixO oj ρ fun j => onSome (ixN ds.length i) fun n => onSome (ds[n]?) fun it => onOwnL it fun es => onSome (ixN es.length j) fun m => k (ρ.set x (some (.box (ds.set n (.lst true (es.set m d))))))) False
theorem gSetB_e {x : Nat} {oi oj : IxO} {d : D} {ρ : Rho} {k : Rho → Prop} : gSetB x oi oj d ρ k = cond d.isFz (sl ρ x fun l => onBox l fun ds => ixO oi ρ fun i => ixO oj ρ fun j => onSome (ixN ds.length i) fun n => onSome (ds[n]?) fun it => onOwnL it fun es => onSome (ixN es.length j) fun m => k (ρ.set x (some (.box (ds.set n (.lst true (es.set m d))))))) False := rfl
def gLenB (as : List D) (Q : D → Prop) : Prop := match as with
  | [.box ds] => Q (.int ds.length)
  | as => gLenX as Q
theorem gLenB_e {ds : List D} {k : D → Prop} : gLenB [.box ds] k = k (.int ds.length) := rfl
end
end DL
namespace DL
open PySem PySem.Spec PyProof.Rows L2 PB
def onBoxE (d : D) (k : List D → Prop) : Prop := match d with
  | .box ds => k ds
  | .lst true [] => k []
  | _ => False
theorem onBoxE_b {ds : List D} {k : List D → Prop} : onBoxE (.box ds) k = k ds := rfl
theorem onBoxE_n {k : List D → Prop} : onBoxE (.lst true []) k = k [] := rfl
def on1 (as : List D) (k : D → Prop) : Prop := match as with
  | [d] => k d
  | _ => False
theorem on1_e {d : D} {k : D → Prop} : on1 [d] k = k d := rfl
/-- xs.append(e): the item goes over with all that it owns -/
def wAppB (i : Nat) (ws : List WD) : WD := fun ρ Q X => sl ρ i fun d0 => onBoxE d0 fun _ => wL ws ρ (fun as ρ1 => on1 as fun d => sl ρ1 i fun l => onBoxE l fun ds => ds.length < 1000000 ∧ Q .non (ρ1.set i (some (.box (ds ++ [d]))))) X
theorem wAppB_e {i : Nat} {ws : List WD} {ρ : Rho} {Q : QD} {X : XD} : wAppB i ws ρ Q X = sl ρ i fun d0 => onBoxE d0 fun _ => wL ws ρ (fun as ρ1 => on1 as fun d => sl ρ1 i fun l => onBoxE l fun ds => ds.length < 1000000 ∧ Q .non (ρ1.set i (some (.box (ds ++ [d]))))) X := rfl
section
variable {B : Bs} {X : Cx} {pr : Nat → Option V} {W : WX} {a b c e o : Expr} {es : List Expr} {pos p p2 cpos apos : Pos}
/-- len(x[i]) -/
def wLenBx (x : Nat) (oi : IxO) : WD := fun ρ Q _ => sl ρ x fun d => onBox d fun ds => ixO oi ρ fun i => onSome (atI ds i) fun it => onLs2 it fun _ es => Q (.int es.length) ρ
theorem wLenBx_e {x : Nat} {oi : IxO} {ρ : Rho} {Q : QD} {Xd : XD} : wLenBx x oi ρ Q Xd = sl ρ x fun d => onBox d fun ds => ixO oi ρ fun i => onSome (atI ds i) fun it => onLs2 it fun _ es => Q (.int es.length) ρ := rfl
end
end DL
namespace L2
open PySem PySem.Spec PyProof.Rows
end L2
namespace DL
open PySem PySem.Spec PyProof.Rows L2 PB
abbrev WTl := List D → Rho → (List D → Rho → Prop) → Prop
def wtEnd (e : WD) : WTl := fun acc ρ Nx => e ρ (fun r ρ4 => acc.length < 1000000 ∧ cond r.mayFreeze (Nx (acc ++ [r.freeze]) ρ4) False) (fun _ _ => False)
def LcT (items : List D) (g : WG) (wt : WTl) (vs : List Nat) (acc : List D) (ρ : Rho) (Nx : List D → Rho → Prop) : Prop := ∃ Iw : Nat → List D → Rho → Prop, Iw 0 acc (wipeD ρ vs) ∧
  (∀ k d acc ρ', items[k]? = some d → Iw k acc ρ' → g d ρ' fun ρ2 => wt acc ρ2 fun acc' ρ3 => Iw (k + 1) acc' (wipeD ρ3 vs)) ∧ ∀ acc ρ', Iw items.length acc ρ' → Nx acc ρ'
def wtNest (wi : WI) (g : WG) (wt : WTl) (vs : List Nat) : WTl := fun acc ρ Nx => wi ρ (fun items ρ4 => LcT items g wt vs acc ρ4 Nx) (fun _ _ => False)
def wLcT (wi : WI) (g : WG) (wt : WTl) (vs : List Nat) : WD := fun ρ Q X => wi ρ (fun items ρ1 => LcT items g wt vs [] ρ1 fun acc ρ' => Q (.lst true acc) (wipeD ρ' vs)) X
theorem wLcT_e {wi : WI} {g : WG} {wt : WTl} {vs : List Nat} {ρ : Rho} {Q : QD} {X : XD} : wLcT wi g wt vs ρ Q X = wi ρ (fun items ρ1 => LcT items g wt vs [] ρ1 fun acc ρ' => Q (.lst true acc) (wipeD ρ' vs)) X := rfl
theorem wtNest_e {wi : WI} {g : WG} {wt : WTl} {vs : List Nat} {acc : List D} {ρ : Rho} {Nx : List D → Rho → Prop} : wtNest wi g wt vs acc ρ Nx = wi ρ (fun items ρ4 => LcT items g wt vs acc ρ4 Nx) (fun _ _ => False) := rfl
theorem wtEnd_e {e : WD} {acc : List D} {ρ : Rho} {Nx : List D → Rho → Prop} : wtEnd e acc ρ Nx = e ρ (fun r ρ4 => acc.length < 1000000 ∧ cond r.mayFreeze (Nx (acc ++ [r.freeze]) ρ4) False) (fun _ _ => False) := rfl
section
variable {B : Bs} {A A1 A' A'' : Addr → Prop} {F F1 F' F'' : List Addr} {H H1 H' H'' : Hp} {pr : Nat → Option V} {σ : L2.St} {W : WX} {Dl : Addr} {L : List Nat}
theorem prw {vs : List Nat} {τ σ : L2.St} (hp : ∀ i ∈ vs, pr i = none) (h : ∀ i v, pr i = some v → σ[i]? = some (some v)) (hw : wipe τ vs = wipe σ vs) : ∀ i v, pr i = some v → (wipe σ vs)[i]? = some (some v) := fun i v hi => by
  have hv : i ∉ vs := fun z => by rw [hp i z] at hi; cases hi
  rw [wipe_off σ vs i hv]
  exact h i v hi
end
end DL
namespace DL
open PySem PySem.Spec PyProof.Rows L2 PB
/-- x * n -/
def repS (x : Str) (n : Nat) : Str := ⟨(List.replicate n x.cps.toList).flatten.toArray⟩
def gRepS : D → D → (D → Prop) → Prop
  | .str x, .int n, Q => 1 ≤ n ∧ n ≤ 1000 ∧ 0 < x.length ∧ x.length ≤ 1000 ∧ Q (.str (repS x n.toNat))
  | _, _, _ => False
theorem gRepS_e {x : Str} {n : Int} {k : D → Prop} : gRepS (.str x) (.int n) k = (1 ≤ n ∧ n ≤ 1000 ∧ 0 < x.length ∧ x.length ≤ 1000 ∧ k (.str (repS x n.toNat))) := rfl
/-- x.replace('y', 'z') -/
def wRepl (y z : Str) (w : WD) : WD := fun ρ Q X => w ρ (fun d ρ1 => onStr d fun x => x.length + (x.length + 1) * z.length ≤ 16777216 ∧ Q (.str (Txt.replace x y z)) ρ1) X
theorem wRepl_e {y z : Str} {w : WD} {ρ : Rho} {Q : QD} {X : XD} : wRepl y z w ρ Q X = w ρ (fun d ρ1 => onStr d fun x => x.length + (x.length + 1) * z.length ≤ 16777216 ∧ Q (.str (Txt.replace x y z)) ρ1) X := rfl
end DL
namespace DL
open PySem PySem.Spec PyProof.Rows L2 PB
def gInDp (kd : Bool → D) : D → D → (D → Prop) → Prop := fun x y Q => match y with
  | .lst _ ds => cond (D.eqOk 10 x && D.eqOk 10 y) (Q (kd (ds.any fun z => z.eqv x))) False
  | .tup ds => cond (D.eqOk 10 x && D.eqOk 10 y) (Q (kd (ds.any fun z => z.eqv x))) False
  | _ => False
theorem gInDp_l {kd : Bool → D} {x : D} {o : Bool} {ds : List D} {k : D → Prop} : gInDp kd x (.lst o ds) k = cond (D.eqOk 10 x && D.eqOk 10 (.lst o ds)) (k (kd (ds.any fun z => z.eqv x))) False := rfl
theorem gInDp_t {kd : Bool → D} {x : D} {ds : List D} {k : D → Prop} : gInDp kd x (.tup ds) k = cond (D.eqOk 10 x && D.eqOk 10 (.tup ds)) (k (kd (ds.any fun z => z.eqv x))) False := rfl
section
variable {B : Bs} {X : Cx}
def hIdxD (l : D) (as : List D) (k : D → Prop) : Prop := match l, as with
  | .lst _ ds, [y] => cond (D.eqOk 10 y && ds.all (D.eqOk 9)) (onSome (idxD ds y) fun j => k (.int (j : Nat))) False
  | _, _ => False
/-- xs.index(v), items of any depth -/
def wIdxD (i : Nat) (ws : List WD) : WD := fun ρ Q Xd => sl ρ i fun d0 => isLx d0 (wL ws ρ (fun as ρ1 => sl ρ1 i fun l => hIdxD l as fun r => Q r ρ1) Xd)
theorem wIdxD_e {i : Nat} {ws : List WD} {ρ : Rho} {Q : QD} {Xd : XD} : wIdxD i ws ρ Q Xd = sl ρ i fun d0 => isLx d0 (wL ws ρ (fun as ρ1 => sl ρ1 i fun l => hIdxD l as fun r => Q r ρ1) Xd) := rfl
theorem hIdxD_e {b : Bool} {ds : List D} {y : D} {k : D → Prop} : hIdxD (.lst b ds) [y] k = cond (D.eqOk 10 y && ds.all (D.eqOk 9)) (onSome (idxD ds y) fun j => k (.int (j : Nat))) False := rfl
variable {pr : Nat → Option V} {W : WX} {o e : Expr} {apos cpos : Pos} {ws : List WD}
end
end DL
namespace DL
open PySem PySem.Spec PyProof.Rows L2 PB
mutual
/-- what it owns are lists -/
def D.lsts : D → Bool
  | .tup ds => D.lstsA ds
  | .box ds => D.lstsA ds
  | .ins o _ _ _ => !o
  | .dic o _ _ => !o
  | .spring _ => false
  | .reco _ _ => false
  | .val _ => false
  | _ => true
def D.lstsA : List D → Bool
  | [] => true
  | d :: ds => D.lsts d && D.lstsA ds
end
mutual
/-- nothing in it is a list that is frozen -/
def D.noL : D → Bool
  | .tup ds => D.noLA ds
  | .box ds => D.noLA ds
  | .lst o ds => o && D.noLA ds
  | .ins _ _ _ ds => D.noLA ds
  | .dic _ _ ds => D.noLA ds
  | .reco _ ds => D.noLA ds
  | .script => false
  | .exc _ _ _ _ _ => false
  | _ => true
def D.noLA : List D → Bool
  | [] => true
  | d :: ds => D.noL d && D.noLA ds
end
section
variable {B : Bs} {A A1 A2 : Addr → Prop} {H H1 : Hp} {g0 : List Addr}
mutual
theorem Rp.lsts : ∀ (d : D) (v : V) (f : List Addr), d.lsts = true → Rp B A H d v f → ∀ a ∈ f, ∃ xs, H a = some (.lst xs)
  | .non, _, _, _, h => by rw [Rp] at h; rw [h.2]; simp
  | .bl _, _, _, _, h => by rw [Rp] at h; rw [h.2]; simp
  | .int _, _, _, _, h => by rw [Rp] at h; rw [h.2]; simp
  | .str _, _, _, _, h => by rw [Rp] at h; rw [h.2]; simp
  | .ty _, _, _, _, h => by rw [Rp] at h; rw [h.2]; simp
  | .fn _, _, _, _, h => by rw [Rp] at h; rw [h.2]; simp
  | .script, _, _, _, h => by rw [Rp] at h; rw [h.2]; simp
  | .tup ds, _, f, m, h => by
    rw [Rp] at h
    obtain ⟨a, vs, e, q, r⟩ := h
    exact RpA.lsts ds vs f m r
  | .lst true ds, _, _, _, h => by
    rw [Rp] at h
    obtain ⟨a, vs, e, r, q, _, rfl⟩ := h
    intro b hb
    simp at hb
    subst hb
    exact ⟨vs, q⟩
  | .lst false ds, _, _, _, h => by rw [Rp] at h; obtain ⟨_, _, _, _, _, _, e⟩ := h; rw [e]; simp
  | .ins true _ _ _, _, _, m, _ => by cases m
  | .ins false _ _ _, _, _, _, h => by rw [Rp] at h; obtain ⟨_, _, _, _, _, _, _, _, _, e, _⟩ := h; rw [e]; simp
  | .dic true _ _, _, _, m, _ => by cases m
  | .dic false _ _, _, _, _, h => by rw [Rp] at h; obtain ⟨_, _, _, _, _, _, e⟩ := h; rw [e]; simp
  | .spring _, _, _, m, _ => by cases m
  | .reco _ _, _, _, m, _ => by cases m
  | .val _, _, _, m, _ => by cases m
  | .exc _ _ _ _ _, _, _, _, h => by rw [Rp] at h; rw [h.2.1]; simp
  | .box ds, _, f, m, h => by
    rw [Rp] at h
    obtain ⟨a, vs, g, e, r, q, _, rfl⟩ := h
    intro b hb
    rcases List.mem_cons.mp hb with z | z
    · subst z; exact ⟨vs, q⟩
    · exact RpA.lsts ds vs g m r b z
theorem RpA.lsts : ∀ (ds : List D) (vs : List V) (f : List Addr), D.lstsA ds = true → RpA B A H ds vs f → ∀ a ∈ f, ∃ xs, H a = some (.lst xs)
  | [], _, _, _, h => by rw [RpA] at h; rw [h.2]; simp
  | d :: ds, _, f, m, h => by
    rw [D.lstsA, Bool.and_eq_true] at m
    rw [RpA] at h
    obtain ⟨v, vr, g, k, e, rfl, p, q⟩ := h
    intro a ha
    rcases List.mem_append.mp ha with z | z
    · exact Rp.lsts d v g m.1 p a z
    · exact RpA.lsts ds vr k m.2 q a z
end
end
/-- a slot behind the expression: without frozen lists, or as it was -/
def okS (x y : Option D) : Prop := match y with
  | none => True
  | some d => d.noL = true ∨ (x = some d ∧ d.isFz = true)
def brwAll : Rho → Rho → Prop
  | [], [] => True
  | x :: ρ, y :: ρ' => okS x y ∧ brwAll ρ ρ'
  | _, _ => False
def brwOk : Nat → Rho → Rho → Prop
  | 0, _ :: ρ, _ :: ρ' => brwAll ρ ρ'
  | i + 1, x :: ρ, y :: ρ' => okS x y ∧ brwOk i ρ ρ'
  | _, _, _ => False
/-- slot i is lent for reading -/
def wBrw (i : Nat) (w : WD) : WD := fun ρ Q X => sl ρ i fun d => d.lsts = true ∧ d.mayFreeze = true ∧ w (ρ.set i (some d.freeze)) (fun r ρ' => r.noL = true ∧ brwOk i ρ ρ' ∧ Q r (ρ'.set i (some d))) X
theorem wBrw_e {i : Nat} {w : WD} {ρ : Rho} {Q : QD} {X : XD} : wBrw i w ρ Q X = sl ρ i fun d => d.lsts = true ∧ d.mayFreeze = true ∧ w (ρ.set i (some d.freeze)) (fun r ρ' => r.noL = true ∧ brwOk i ρ ρ' ∧ Q r (ρ'.set i (some d))) X := rfl
def onBoxL (d : D) (k : List D → Prop) : Prop := match d with
  | .box ds => k ds
  | _ => False
theorem onBoxL_b {ds : List D} {k : List D → Prop} : onBoxL (.box ds) k = k ds := rfl
def wTupB (i : Nat) : WD := fun ρ Q _ => sl ρ i fun d => onBoxL d fun ds => Q (.tup ds) (ρ.set i none)
theorem wTupB_e {i : Nat} {ρ : Rho} {Q : QD} {X : XD} : wTupB i ρ Q X = sl ρ i fun d => onBoxL d fun ds => Q (.tup ds) (ρ.set i none) := rfl
end DL
namespace DL
open PySem PySem.Spec PyProof.Rows L2 PB
def bxT (t : Bool) (ds : List D) : D := if t then .tup ds else .box ds
def onBx (t : Bool) (d : D) (k : List D → Prop) : Prop := match t, d with
  | false, .box ds => k ds
  | true, .tup ds => k ds
  | _, _ => False
theorem onBx_b {ds : List D} {k : List D → Prop} : onBx false (.box ds) k = k ds := rfl
theorem onBx_t {ds : List D} {k : List D → Prop} : onBx true (.tup ds) k = k ds := rfl
/-- what the body is to leave -/
def bxBack (t : Bool) (b r k : Nat) (u : V) (Iv : Nat → Rho → Prop) : Rho → Prop := fun ρ2 => sl ρ2 b fun x => onBx t x fun ds2 => ds2[k]? = some (.val u) ∧ sl ρ2 r fun d2 => Iv (k + 1) ((ρ2.set b (some (bxT t (ds2.set k d2)))).set r none)
def BxG (t : Bool) (b r : Nat) (body : WS) (E : DEnds) (ρ : Rho) : Prop := ∃ (Iv : Nat → Rho → Prop) (n : Nat), Iv 0 ρ ∧
  ∀ k ρ', Iv k ρ' → r < ρ'.length ∧ sl ρ' b fun x => onBx t x fun ds => ds.length = n ∧ (n ≤ k → E.nx ρ') ∧
    ∀ d, ds[k]? = some d → ∀ u, body { E with nx := bxBack t b r k u Iv, ct := bxBack t b r k u Iv, bk := fun _ => False } ((ρ'.set b (some (bxT t (ds.set k (.val u))))).set r (some d))
def sForBx (b r : Nat) (body : WS) : WS := fun E ρ => ∃ t, BxG t b r body E ρ
theorem sForBx_e {b r : Nat} {body : WS} {E : DEnds} {ρ : Rho} : sForBx b r body E ρ = ∃ t, BxG t b r body E ρ := rfl
end DL
namespace PB
open PySem PySem.Spec PyProof.Rows L2
end PB
namespace DL
open PySem PySem.Spec PyProof.Rows L2 PB
def maskD : List Bool → Rho → Rho
  | _, [] => []
  | true :: ks, x :: ρ => x :: maskD ks ρ
  | false :: ks, _ :: ρ => none :: maskD ks ρ
  | [], _ :: ρ => none :: maskD [] ρ
theorem maskD_n {ks : List Bool} : maskD ks [] = [] := by cases ks <;> first | rfl | (rename_i b _; cases b <;> rfl)
theorem maskD_t {ks : List Bool} {x : Option D} {ρ : Rho} : maskD (true :: ks) (x :: ρ) = x :: maskD ks ρ := rfl
theorem maskD_f {ks : List Bool} {x : Option D} {ρ : Rho} : maskD (false :: ks) (x :: ρ) = none :: maskD ks ρ := rfl
theorem maskD_0 {x : Option D} {ρ : Rho} : maskD [] (x :: ρ) = none :: maskD [] ρ := rfl
def wLcX (ks : List Bool) (wi : WI) (g : WG) (t : WT) (e : WD) (vs : List Nat) : WD := fun ρ Q X => wi ρ (fun items ρ1 => ∃ Iv : Nat → List D → Rho → Prop, Iv 0 [] (wipeD ρ1 vs) ∧
  (∀ k d acc ρ', items[k]? = some d → Iv k acc ρ' → g d ρ' fun ρ2 => t ρ2 (fun b ρ3 => if b = true then e ρ3 (fun r ρ4 => acc.length < 1000000 ∧ cond r.mayFreeze (Iv (k + 1) (acc ++ [r.freeze]) (wipeD ρ4 vs)) False) (fun x ρ4 => ρ4.length = ρ3.length ∧ X x (maskD ks ρ4)) else Iv (k + 1) acc (wipeD ρ3 vs)) fun _ _ => False) ∧
  ∀ acc ρ', Iv items.length acc ρ' → Q (.lst true acc) (wipeD ρ' vs)) X
/-- as LcG, with errors -/
def LcGX (ks : List Bool) (g : WG) (t : WT) (e : WD) (vs : List Nat) (items : List D) (ρ1 : Rho) (Q : QD) (X : XD) : Prop := ∃ Iv : Nat → List D → Rho → Prop, Iv 0 [] (wipeD ρ1 vs) ∧
  (∀ k d acc ρ', items[k]? = some d → Iv k acc ρ' → g d ρ' fun ρ2 => t ρ2 (fun b ρ3 => if b = true then e ρ3 (fun r ρ4 => acc.length < 1000000 ∧ cond r.mayFreeze (Iv (k + 1) (acc ++ [r.freeze]) (wipeD ρ4 vs)) False) (fun x ρ4 => ρ4.length = ρ3.length ∧ X x (maskD ks ρ4)) else Iv (k + 1) acc (wipeD ρ3 vs)) fun _ _ => False) ∧
  ∀ acc ρ', Iv items.length acc ρ' → Q (.lst true acc) (wipeD ρ' vs)
theorem wLcX_e {ks : List Bool} {wi : WI} {g : WG} {t : WT} {e : WD} {vs : List Nat} {ρ : Rho} {Q : QD} {X : XD} : wLcX ks wi g t e vs ρ Q X = wi ρ (fun items ρ1 => LcGX ks g t e vs items ρ1 Q X) X := rfl
theorem spOf_len {B : Bs} {s : DSp} {vs : List V} {H : Hp} {Q : VK} {E : XK} {n : Nat} (h : spOf B s vs H Q E) (hd : ∀ ds Qd Xd, s ds Qd Xd → ds.length = n) : vs.length = n := by
  obtain ⟨A, F, ds, Qd, Xd, p, _, _, h, _⟩ := h
  rw [RpA.len _ _ _ p]
  exact hd _ _ _ h
theorem len2 {α : Type} {l : List α} (h : l.length = 2) : ∃ a b, l = [a, b] := by
  match l, h with
  | [a, b], _ => exact ⟨a, b, rfl⟩
theorem len3 {α : Type} {l : List α} (h : l.length = 3) : ∃ a b c, l = [a, b, c] := by
  match l, h with
  | [a, b, c], _ => exact ⟨a, b, c, rfl⟩
end DL
namespace DL
open PySem PySem.Spec PyProof.Rows L2 PB
def gIsE (cs own : List Str) (ts : List String) (a : Addr) (y : DX) : List D → (D → Prop) → Prop := fun as Q => match as with
  | [.exc a' _ _ _ _, t] => a' = a ∧ (match y with
    | .own c => cs.contains c = true ∧ (match t with
      | .fn d => own.contains d = true ∧ Q (.bl (c == d || d == "PairError"))
      | .ty n => ts.contains n = true ∧ Q (.bl true)
      | _ => False)
    | _ => False)
  | _ => False
theorem gIsE_c {cs own : List Str} {ts : List String} {a a' : Addr} {c d : Str} {v : Value} {m : Option Addr} {ns : List Str} {ds : List D} {k : D → Prop} : gIsE cs own ts a (.own c) [.exc a' v m ns ds, .fn d] k = (a' = a ∧ cs.contains c = true ∧ own.contains d = true ∧ k (.bl (c == d || d == "PairError"))) := rfl
theorem gIsE_t {cs own : List Str} {ts : List String} {a a' : Addr} {c : Str} {n : String} {v : Value} {m : Option Addr} {ns : List Str} {ds : List D} {k : D → Prop} : gIsE cs own ts a (.own c) [.exc a' v m ns ds, .ty n] k = (a' = a ∧ cs.contains c = true ∧ ts.contains n = true ∧ k (.bl true)) := rfl
def gIsET (cs own fs : List Str) (a : Addr) (y : DX) : D → (D → Prop) → Prop := fun d Q => match d with
  | .exc a' _ _ _ _ => a' = a ∧ (match y with
    | .own c => cs.contains c = true ∧ (fs.all fun d => own.contains d) = true ∧ Q (.bl (fs.any fun d => c == d || d == "PairError"))
    | _ => False)
  | _ => False
theorem gIsET_e {cs own fs : List Str} {a a' : Addr} {c : Str} {v : Value} {m : Option Addr} {ns : List Str} {ds : List D} {k : D → Prop} : gIsET cs own fs a (.own c) (.exc a' v m ns ds) k = (a' = a ∧ cs.contains c = true ∧ (fs.all fun d => own.contains d) = true ∧ k (.bl (fs.any fun d => c == d || d == "PairError"))) := rfl
theorem RpA.swap {B : Bs} {A : Addr → Prop} {H : Hp} : ∀ (ds : List D) (vs : List V) (f : List Addr) (n : Nat) (d : D), ds[n]? = some d → RpA B A H ds vs f → ∃ b1 gm b2, f = b1 ++ gm ++ b2 ∧
    ∀ A' H' d' v' g', (∀ es us h, RpA B A H es us h → (∀ a ∈ h, a ∈ b1 ++ b2) → RpA B A' H' es us h) → Rp B A' H' d' v' g' → RpA B A' H' (ds.set n d') (vs.set n v') (b1 ++ g' ++ b2)
  | [], _, _, n, d, h, _ => by simp at h
  | d0 :: ds, _, f, 0, d, h, r => by
    rw [RpA] at r
    obtain ⟨v, vr, g, k, rfl, rfl, p, q⟩ := r
    refine ⟨[], g, k, by simp, fun A' H' d' v' g' hs hx => ?_⟩
    have q' := hs _ _ _ q (fun a ha => by simpa using ha)
    rw [List.set_cons_zero, List.set_cons_zero, RpA]
    exact ⟨v', vr, g', k, rfl, by simp, hx, q'⟩
  | d0 :: ds, _, f, n + 1, d, h, r => by
    rw [RpA] at r
    obtain ⟨v, vr, g, k, rfl, rfl, p, q⟩ := r
    obtain ⟨b1, gm, b2, rfl, back⟩ := RpA.swap ds vr k n d (by simpa using h) q
    refine ⟨g ++ b1, gm, b2, by simp, fun A' H' d' v' g' hs hx => ?_⟩
    have h0 : RpA B A' H' [d0] [v] (g ++ []) := hs [d0] [v] (g ++ []) (by rw [RpA]; exact ⟨v, [], g, [], rfl, rfl, p, by rw [RpA]; exact ⟨rfl, rfl⟩⟩) (fun a ha => by simp at ha; simp [ha])
    rw [RpA] at h0
    obtain ⟨v1, _, g1, k1, e3, e4, p1, h1⟩ := h0
    rw [RpA] at h1
    obtain ⟨rfl, rfl⟩ := h1
    cases e3
    simp at e4
    subst e4
    rw [List.set_cons_succ, List.set_cons_succ, RpA]
    exact ⟨v, vr.set n v', g, b1 ++ g' ++ b2, rfl, by simp, p1, back A' H' d' v' g' (fun es us hh a b => hs es us hh a (fun z hz => by have := b z hz; simp at this ⊢; rcases this with h | h <;> simp [h])) hx⟩
section
variable {B : Bs} {X : Cx} {pr : Nat → Option V} {W : WX} {a b c e tg o : Expr} {es : List Expr} {pos p p2 cpos apos : Pos}
/-- x[i] = v, x a list whose items may own things -/
def gSetBx (x : Nat) (oi : IxO) : WG := fun d ρ k => sl ρ x fun l => onBox l fun ds => ixO oi ρ fun i => onSome (ixN ds.length i) fun n => onSome (ds[n]?) fun _ => k (ρ.set x (some (.box (ds.set n d))))
theorem gSetBx_e {x : Nat} {oi : IxO} {d : D} {ρ : Rho} {k : Rho → Prop} : gSetBx x oi d ρ k = sl ρ x fun l => onBox l fun ds => ixO oi ρ fun i => onSome (ixN ds.length i) fun n => onSome (ds[n]?) fun _ => k (ρ.set x (some (.box (ds.set n d)))) := rfl
end
end DL
namespace DL
open PySem PySem.Spec PyProof.Rows L2 PB
def sgD (a : Str) : List D := a.cps.toList.map fun c => .str ⟨#[c]⟩
section
variable {B : Bs} {X : Cx}
def gListS : List D → (D → Prop) → Prop
  | [.str a], Q => a.length ≤ 1000000 ∧ Q (.lst true (sgD a))
  | _, _ => False
theorem gListS_e {a : Str} {k : D → Prop} : gListS [.str a] k = (a.length ≤ 1000000 ∧ k (.lst true (sgD a))) := rfl
end
def gSetBw (x : Nat) (oi : IxO) (w : WD) : WG := fun d ρ k => cond d.isFz (sl ρ x fun l => onBox l fun ds => ixO oi ρ fun i => onSome (ixN ds.length i) fun n => onSome (ds[n]?) fun it => onOwnL it fun es => w (ρ.set x none) (fun jd ρ2 => onInt jd fun j => ρ2[x]? = some none ∧ onSome (ixN es.length j) fun m => k (ρ2.set x (some (.box (ds.set n (.lst true (es.set m d))))))) (fun _ _ => False)) False
theorem gSetBw_e {x : Nat} {oi : IxO} {w : WD} {d : D} {ρ : Rho} {k : Rho → Prop} : gSetBw x oi w d ρ k = cond d.isFz (sl ρ x fun l => onBox l fun ds => ixO oi ρ fun i => onSome (ixN ds.length i) fun n => onSome (ds[n]?) fun it => onOwnL it fun es => w (ρ.set x none) (fun jd ρ2 => onInt jd fun j => ρ2[x]? = some none ∧ onSome (ixN es.length j) fun m => k (ρ2.set x (some (.box (ds.set n (.lst true (es.set m d))))))) (fun _ _ => False)) False := rfl
end DL
namespace DL
open PySem PySem.Spec PyProof.Rows L2 PB
def sFrz (i : Nat) (s : WS) : WS := fun Ed ρ => sl ρ i fun d => d.mayFreeze = true ∧ s Ed (ρ.set i (some d.freeze))
theorem sFrz_e {i : Nat} {s : WS} {Ed : DEnds} {ρ : Rho} : sFrz i s Ed ρ = sl ρ i fun d => d.mayFreeze = true ∧ s Ed (ρ.set i (some d.freeze)) := rfl
end DL
namespace DL
open PySem PySem.Spec PyProof.Rows L2 PB
def wIdxE (w0 wa : WD) : WD := fun ρ Q X => w0 ρ (fun d0 ρ1 => isLx d0 (wa ρ1 (fun y ρ2 => hIdx d0 [y] fun r => Q r ρ2) X)) X
theorem wIdxE_e {w0 wa : WD} {ρ : Rho} {Q : QD} {X : XD} : wIdxE w0 wa ρ Q X = w0 ρ (fun d0 ρ1 => isLx d0 (wa ρ1 (fun y ρ2 => hIdx d0 [y] fun r => Q r ρ2) X)) X := rfl
end DL
namespace DL
open PySem PySem.Spec PyProof.Rows L2 PB
def gT2 (n : Nat) (g : WGs) : WG := fun d ρ k => match d with
  | .tup ds => ds.length = n ∧ g ds ρ k
  | .lst false ds => ds.length = n ∧ g ds ρ k
  | _ => False
section
variable {ρ : Rho} {ds : List D} {n : Nat} {kρ : Rho → Prop} {gs : WGs}
theorem gT2_t : gT2 n gs (.tup ds) ρ kρ = (ds.length = n ∧ gs ds ρ kρ) := rfl
theorem gT2_l : gT2 n gs (.lst false ds) ρ kρ = (ds.length = n ∧ gs ds ρ kρ) := rfl
end
end DL
namespace DL
open PySem PySem.Spec PyProof.Rows L2 PB
def isLsD (d : D) (k : Prop) : Prop := match d with
  | .lst true _ => k
  | .box _ => k
  | _ => False
theorem isLsD_l {ds : List D} {k : Prop} : isLsD (.lst true ds) k = k := rfl
theorem isLsD_b {ds : List D} {k : Prop} : isLsD (.box ds) k = k := rfl
def wMvA (i : Nat) : WD := fun ρ Q _ => sl ρ i fun d => isLsD d (∀ a : Addr, Q d (ρ.set i (some (.val (.ref a)))))
theorem wMvA_e {i : Nat} {ρ : Rho} {Q : QD} {X : XD} : wMvA i ρ Q X = sl ρ i fun d => isLsD d (∀ a : Addr, Q d (ρ.set i (some (.val (.ref a))))) := rfl
def gIsNV (k : Bool → D) : D → D → (D → Prop) → Prop := fun d e Q => match d, e with
  | .val (.ref _), .non => Q (k false)
  | d, e => gIsN k d e Q
theorem gIsNV_v {kd : Bool → D} {a : Addr} {k : D → Prop} : gIsNV kd (.val (.ref a)) .non k = k (kd false) := rfl
theorem gIsNV_n {kd : Bool → D} {k : D → Prop} : gIsNV kd .non .non k = k (kd true) := rfl
theorem gIsNV_l {kd : Bool → D} {o : Bool} {ds : List D} {k : D → Prop} : gIsNV kd (.lst o ds) .non k = k (kd false) := by cases o <;> rfl
end DL
namespace PB
open PySem PySem.W PyProof.Rows Builtin
end PB
namespace PB
open PySem PySem.Spec PyProof.Rows L2
end PB
namespace DL
open PySem PySem.Spec PyProof.Rows L2 PB
section
variable {B : Bs} {X : Cx} {pr : Nat → Option V} {W : WX} {a b e : Expr} {oa ob : Opd} {pos : Pos}
/-- either of two readings: the goal picks -/
def wEither (w1 w2 : WD) : WD := fun ρ Q X => w1 ρ Q X ∨ w2 ρ Q X
theorem wEither_e {w1 w2 : WD} {ρ : Rho} {Q : QD} {X : XD} : wEither w1 w2 ρ Q X = (w1 ρ Q X ∨ w2 ρ Q X) := rfl
/-- x op y, x of class c, y of class c2 -/
def wOwnC (c c2 : Str) (s : DSp) (oa ob : Opd) : WD := fun ρ Q X => wArgs [oa, ob] ρ (fun as ρ1 => match as with
  | [x, y] => argD x ρ1 (isC c) ∧ argD y ρ1 (isC c2) ∧ callK s [] [x, y] ρ1 Q X
  | _ => False) X
/-- i op x, x own: its reflected method -/
def isIn (d : D) : Prop := match d with
  | .int _ => True
  | _ => False
def wROwn (c : Str) (s : DSp) (oa ob : Opd) : WD := fun ρ Q X => wArgs [oa, ob] ρ (fun as ρ1 => match as with
  | [x, y] => argD x ρ1 isIn ∧ argD y ρ1 (isC c) ∧ callK s [] [y, x] ρ1 Q X
  | _ => False) X
theorem wOwnC_e {c c2 : Str} {s : DSp} {ρ : Rho} {Q : QD} {X : XD} : wOwnC c c2 s oa ob ρ Q X = wArgs [oa, ob] ρ (fun as ρ1 => match as with
  | [x, y] => argD x ρ1 (isC c) ∧ argD y ρ1 (isC c2) ∧ callK s [] [x, y] ρ1 Q X
  | _ => False) X := rfl
theorem wROwn_e {c : Str} {s : DSp} {ρ : Rho} {Q : QD} {X : XD} : wROwn c s oa ob ρ Q X = wArgs [oa, ob] ρ (fun as ρ1 => match as with
  | [x, y] => argD x ρ1 isIn ∧ argD y ρ1 (isC c) ∧ callK s [] [y, x] ρ1 Q X
  | _ => False) X := rfl
theorem isIn_i {i : Int} : isIn (.int i) = True := rfl
end
end DL
namespace PB
open PySem PySem.Spec PyProof.Rows L2
end PB
namespace DL
open PySem PySem.Spec PyProof.Rows L2 PB
section
variable {B : Bs} {X : Cx} {pr : Nat → Option V} {W : WX} {a b e : Expr} {oa ob : Opd} {pos : Pos}
def isBlD (d : D) : Prop := match d with
  | .bl _ => True
  | _ => False
theorem isBlD_b {i : Bool} : isBlD (.bl i) = True := rfl
def wOwnB (c : Str) (s : DSp) (oa ob : Opd) : WD := fun ρ Q X => wArgs [oa, ob] ρ (fun as ρ1 => match as with
  | [x, y] => argD x ρ1 (isC c) ∧ argD y ρ1 isBlD ∧ callK s [] [x, y] ρ1 Q X
  | _ => False) X
theorem wOwnB_e {c : Str} {s : DSp} {ρ : Rho} {Q : QD} {X : XD} : wOwnB c s oa ob ρ Q X = wArgs [oa, ob] ρ (fun as ρ1 => match as with
  | [x, y] => argD x ρ1 (isC c) ∧ argD y ρ1 isBlD ∧ callK s [] [x, y] ρ1 Q X
  | _ => False) X := rfl
def wROwnB (c : Str) (s : DSp) (oa ob : Opd) : WD := fun ρ Q X => wArgs [oa, ob] ρ (fun as ρ1 => match as with
  | [x, y] => argD x ρ1 isBlD ∧ argD y ρ1 (isC c) ∧ callK s [] [y, x] ρ1 Q X
  | _ => False) X
theorem wROwnB_e {c : Str} {s : DSp} {ρ : Rho} {Q : QD} {X : XD} : wROwnB c s oa ob ρ Q X = wArgs [oa, ob] ρ (fun as ρ1 => match as with
  | [x, y] => argD x ρ1 isBlD ∧ argD y ρ1 (isC c) ∧ callK s [] [y, x] ρ1 Q X
  | _ => False) X := rfl
end
end DL
namespace DL
open PySem PySem.Spec PyProof.Rows L2 PB
def onOL (d : D) (k : List D → Prop) : Prop := match d with
  | .lst true ds => k ds
  | _ => False
theorem onOL_l {ds : List D} {k : List D → Prop} : onOL (.lst true ds) k = k ds := rfl
def ForO (ds : List D) (b : Nat) (g : WG) (body : WS) (E : DEnds) (ρ : Rho) : Prop := ∃ Iv : Nat → Rho → Prop, Iv 0 ρ ∧ ∀ k ρ', Iv k ρ' → ρ'[b]? = some (some (.lst true ds)) ∧ (∀ d, ds[k]? = some d → g d ρ' fun ρ2 => body { E with nx := Iv (k + 1), ct := Iv (k + 1), bk := E.nx } ρ2) ∧ (ds.length ≤ k → E.nx ρ')
def sForO (b : Nat) (g : WG) (body : WS) : WS := fun E ρ => sl ρ b fun d => onOL d fun ds => ForO ds b g body E ρ
theorem sForO_e {b : Nat} {g : WG} {body : WS} {E : DEnds} {ρ : Rho} : sForO b g body E ρ = sl ρ b fun d => onOL d fun ds => ForO ds b g body E ρ := rfl
end DL
namespace DL
open PySem PySem.Spec PyProof.Rows L2 PB
mutual
/-- the fields of the instances that it owns -/
def D.insNs : D → List (List Str)
  | .tup ds => D.insNsA ds
  | .box ds => D.insNsA ds
  | .reco _ ds => D.insNsA ds
  | .ins o _ ns ds => match o with
    | true => ns :: D.insNsA ds
    | false => []
  | _ => []
def D.insNsA : List D → List (List Str)
  | [] => []
  | d :: ds => D.insNs d ++ D.insNsA ds
end
mutual
/-- nothing frozen is in it, but for instances with other fields -/
def D.noX (nss : List (List Str)) : D → Bool
  | .tup ds => D.noXA nss ds
  | .box ds => D.noXA nss ds
  | .reco _ ds => D.noXA nss ds
  | .lst o ds => o && D.noXA nss ds
  | .ins o _ ns ds => (o || !(nss.contains ns)) && D.noXA nss ds
  | .dic o _ ds => o && D.noXA nss ds
  | .script => false
  | .exc _ _ _ _ _ => false
  | _ => true
def D.noXA (nss : List (List Str)) : List D → Bool
  | [] => true
  | d :: ds => D.noX nss d && D.noXA nss ds
end
mutual
/-- it may be lent: holes are no hindrance -/
def D.mayLend : D → Bool
  | .tup ds => D.mayLendA ds
  | .ins true _ _ ds => D.mayLendA ds
  | .spring _ => false
  | .box ds => D.mayLendA ds
  | .reco _ ds => D.mayLendA ds
  | _ => true
def D.mayLendA : List D → Bool
  | [] => true
  | d :: ds => D.mayLend d && D.mayLendA ds
end
/-- what may be owned -/
def OwnK (nss : List (List Str)) (x : Option HO) : Prop := (∃ xs, x = some (.lst xs)) ∨ (∃ kvs, x = some (.dK kvs)) ∨ (∃ φ, x = some (.ext φ)) ∨ ∃ c dx ns vs, x = some (.ins c dx (List.zip ns vs)) ∧ ns.length = vs.length ∧ ns ∈ nss
theorem OwnK.mono {nss mss : List (List Str)} {x : Option HO} (h : OwnK nss x) (s : ∀ n ∈ nss, n ∈ mss) : OwnK mss x := by
  rcases h with h | h | h | ⟨c, dx, ns, vs, e, l, m⟩
  · exact .inl h
  · exact .inr (.inl h)
  · exact .inr (.inr (.inl h))
  · exact .inr (.inr (.inr ⟨c, dx, ns, vs, e, l, s ns m⟩))
section
variable {B : Bs} {A A1 A2 : Addr → Prop} {H H1 : Hp} {g0 : List Addr} {nss : List (List Str)}
mutual
theorem Rp.lend (g0 : List Addr) : ∀ (d : D) (v : V) (f : List Addr), (∀ a ∈ f, a ∈ g0) → d.mayLend = true → Rp B A H d v f → Rp B (Less A g0) H d.freeze v []
  | .non, _, _, _, _, h => by rw [Rp] at h; rw [D.freeze, Rp]; exact ⟨h.1, rfl⟩
  | .bl _, _, _, _, _, h => by rw [Rp] at h; rw [D.freeze, Rp]; exact ⟨h.1, rfl⟩
  | .int _, _, _, _, _, h => by rw [Rp] at h; rw [D.freeze, Rp]; exact ⟨h.1, rfl⟩
  | .str _, _, _, _, _, h => by rw [Rp] at h; rw [D.freeze, Rp]; exact ⟨h.1, rfl⟩
  | .ty _, _, _, _, _, h => by rw [Rp] at h; rw [D.freeze, Rp]; exact ⟨h.1, rfl⟩
  | .fn _, _, _, _, _, h => by rw [Rp] at h; rw [D.freeze, Rp]; exact ⟨h.1, rfl⟩
  | .tup ds, _, f, n, m, h => by
    rw [Rp] at h
    rw [D.freeze, Rp]
    obtain ⟨a, vs, e, q, r⟩ := h
    exact ⟨a, vs, e, q, RpA.lend g0 ds vs f n m r⟩
  | .lst o ds, _, f, n, m, h => by
    rw [Rp] at h
    rw [D.freeze, Rp]
    obtain ⟨a, vs, e, r, q⟩ := h
    cases o with
    | true =>
      obtain ⟨q1, q2, rfl⟩ := q
      exact ⟨a, vs, e, RpA.less g0 ds vs [] (fun b hb => by cases hb) r, q1, fun z => z.2 (n a (List.mem_cons_self ..)), rfl⟩
    | false =>
      obtain ⟨q1, q2, rfl⟩ := q
      exact ⟨a, vs, e, RpA.less g0 ds vs [] (fun b hb => by cases hb) r, q1, fun z => q2 z.1, rfl⟩
  | .ins o c ns ds, _, f, n, m, h => by
    rw [Rp] at h
    obtain ⟨a, dx, vs, g, e, r, q0, ql, q⟩ := h
    have ql' : ns.length = (D.freezeA ds).length := by rw [D.freezeA_map, List.length_map]; exact ql
    cases o with
    | true =>
      rw [D.freeze, Rp]
      obtain ⟨q2, rfl⟩ := q
      rw [D.mayLend] at m
      exact ⟨a, dx, vs, [], e, RpA.lend g0 ds vs g (fun b hb => n b (List.mem_cons_of_mem _ hb)) m r, q0, ql', fun z => z.2 (n a (List.mem_cons_self ..)), rfl, rfl⟩
    | false =>
      obtain ⟨q2, rfl, rfl⟩ := q
      rw [D.freeze, Rp]
      exact ⟨a, dx, vs, [], e, RpA.less g0 ds vs [] (fun b hb => by cases hb) r, q0, ql, fun z => q2 z.1, rfl, rfl⟩
  | .dic o ks ds, _, f, n, m, h => by
    rw [Rp] at h
    rw [D.freeze, Rp]
    obtain ⟨a, vs, e, r, q0, q⟩ := h
    cases o with
    | true =>
      obtain ⟨q2, rfl, _⟩ := q
      exact ⟨a, vs, e, RpA.less g0 ds vs [] (fun b hb => by cases hb) r, q0, fun z => z.2 (n a (List.mem_cons_self ..)), rfl⟩
    | false =>
      obtain ⟨q2, rfl⟩ := q
      exact ⟨a, vs, e, RpA.less g0 ds vs [] (fun b hb => by cases hb) r, q0, fun z => q2 z.1, rfl⟩
  | .spring _, _, _, _, m, _ => by rw [D.mayLend] at m; cases m
  | .script, _, _, _, _, h => by
    rw [Rp] at h
    rw [D.freeze, Rp]
    obtain ⟨⟨a, ns, e, hl, q⟩, e2⟩ := h
    exact ⟨⟨a, ns, e, hl, q.imp (fun q => ⟨q.1, fun z => q.2 z.1⟩) id⟩, rfl⟩
  | .box ds, _, f, n, m, h => by
    rw [Rp] at h
    rw [D.freeze, Rp]
    obtain ⟨a, vs, g, e, r, q0, q2, rfl⟩ := h
    rw [D.mayLend] at m
    exact ⟨a, vs, e, RpA.lend g0 ds vs g (fun b hb => n b (List.mem_cons_of_mem _ hb)) m r, q0, fun z => z.2 (n a (List.mem_cons_self ..)), rfl⟩
  | .reco ns ds, _, f, n, m, h => by
    rw [Rp] at h
    rw [D.freeze, Rp]
    obtain ⟨a, vs, g, e, r, q0, ql, qn, q2, rfl⟩ := h
    rw [D.mayLend] at m
    have hl : (ns.map (Sum.inr : Str → Key)).length = vs.length := by rw [List.length_map, RpA.len1 _ _ _ r, ql]
    refine ⟨a, vs, e, RpA.lend g0 ds vs g (fun b hb => n b (List.mem_cons_of_mem _ hb)) m r, .inl ⟨ns.map Sum.inr, ?_, ?_, hl, .inl q0⟩, fun z => z.2 (n a (List.mem_cons_self ..)), rfl⟩
    · rw [List.map_map]; rfl
    · exact List.Pairwise.map _ (fun x y h z => h (Sum.inr.inj z)) qn
  | .val _, _, _, _, _, h => by rw [Rp] at h; rw [D.freeze, Rp]; exact ⟨h.1, rfl⟩
  | .exc _ _ _ ns ds, _, f, n, m, h => by
    rw [Rp] at h
    rw [D.freeze, Rp]
    obtain ⟨e1, e2, vs, r, q⟩ := h
    exact ⟨e1, rfl, vs, RpA.less g0 ds vs [] (fun b hb => by cases hb) r, fun b hb => ⟨(q b hb).1, (q b hb).2.1, fun z => (q b hb).2.2 z.1⟩⟩
theorem RpA.lend (g0 : List Addr) : ∀ (ds : List D) (vs : List V) (f : List Addr), (∀ a ∈ f, a ∈ g0) → D.mayLendA ds = true → RpA B A H ds vs f → RpA B (Less A g0) H (D.freezeA ds) vs []
  | [], _, _, _, _, h => by rw [RpA] at h; rw [D.freezeA, RpA]; exact ⟨h.1, rfl⟩
  | d :: ds, _, f, n, m, h => by
    rw [RpA] at h
    rw [D.freezeA, RpA]
    rw [D.mayLendA, Bool.and_eq_true] at m
    obtain ⟨v, vr, g, k, e, rfl, p, q⟩ := h
    exact ⟨v, vr, [], [], e, rfl, Rp.lend g0 d v g (fun a ha => n a (List.mem_append_left _ ha)) m.1 p, RpA.lend g0 ds vr k (fun a ha => n a (List.mem_append_right _ ha)) m.2 q⟩
end
theorem DicAt.ownK {a : Addr} {ks : List D} {vs : List V} (h : DicAt B H a ks vs) (nf : NoFz H a) : OwnK nss (H a) := by
  rcases h with ⟨kk, _, _, _, e | ⟨o, e⟩⟩ | ⟨es, e | ⟨o, e⟩, _⟩
  · exact .inr (.inl ⟨_, e⟩)
  · exact absurd e (nf _ _)
  · exact .inr (.inr (.inl ⟨_, e⟩))
  · exact absurd e (nf _ _)
mutual
theorem Rp.ownK : ∀ (d : D) (v : V) (f : List Addr), d.mayLend = true → Rp B A H d v f → ∀ a ∈ f, OwnK d.insNs (H a)
  | .non, _, _, _, h => by rw [Rp] at h; rw [h.2]; simp
  | .bl _, _, _, _, h => by rw [Rp] at h; rw [h.2]; simp
  | .int _, _, _, _, h => by rw [Rp] at h; rw [h.2]; simp
  | .str _, _, _, _, h => by rw [Rp] at h; rw [h.2]; simp
  | .ty _, _, _, _, h => by rw [Rp] at h; rw [h.2]; simp
  | .fn _, _, _, _, h => by rw [Rp] at h; rw [h.2]; simp
  | .script, _, _, _, h => by rw [Rp] at h; rw [h.2]; simp
  | .tup ds, _, f, m, h => by
    rw [Rp] at h
    obtain ⟨a, vs, e, q, r⟩ := h
    rw [D.insNs]
    exact RpA.ownK ds vs f m r
  | .lst true ds, _, _, _, h => by
    rw [Rp] at h
    obtain ⟨a, vs, e, r, q, _, rfl⟩ := h
    intro b hb
    simp at hb
    subst hb
    exact .inl ⟨vs, q⟩
  | .lst false ds, _, _, _, h => by rw [Rp] at h; obtain ⟨_, _, _, _, _, _, e⟩ := h; rw [e]; simp
  | .ins true c ns ds, _, f, m, h => by
    rw [Rp] at h
    obtain ⟨a, dx, vs, g, e, r, q0, ql, _, rfl⟩ := h
    rw [D.insNs]
    intro b hb
    rcases List.mem_cons.mp hb with z | z
    · subst z
      exact .inr (.inr (.inr ⟨_, _, ns, vs, q0, by rw [ql, RpA.len1 _ _ _ r], List.mem_cons_self ..⟩))
    · exact (RpA.ownK ds vs g m r b z).mono fun n hn => List.mem_cons_of_mem _ hn
  | .ins false _ _ _, _, _, _, h => by rw [Rp] at h; obtain ⟨_, _, _, _, _, _, _, _, _, e, _⟩ := h; rw [e]; simp
  | .dic true _ _, _, _, m, h => by
    rw [Rp] at h
    obtain ⟨a, vs, e, r, q0, _, rfl, nf⟩ := h
    intro b hb
    simp at hb
    subst hb
    exact q0.ownK nf
  | .dic false _ _, _, _, _, h => by rw [Rp] at h; obtain ⟨_, _, _, _, _, _, e⟩ := h; rw [e]; simp
  | .spring _, _, _, m, _ => by cases m
  | .val _, _, _, _, h => by rw [Rp] at h; rw [h.2]; simp
  | .exc _ _ _ _ _, _, _, _, h => by rw [Rp] at h; rw [h.2.1]; simp
  | .box ds, _, f, m, h => by
    rw [Rp] at h
    obtain ⟨a, vs, g, e, r, q, _, rfl⟩ := h
    rw [D.insNs]
    intro b hb
    rcases List.mem_cons.mp hb with z | z
    · subst z; exact .inl ⟨vs, q⟩
    · exact RpA.ownK ds vs g m r b z
  | .reco ns ds, _, f, m, h => by
    rw [Rp] at h
    obtain ⟨a, vs, g, e, r, q, _, _, _, rfl⟩ := h
    rw [D.insNs]
    intro b hb
    rcases List.mem_cons.mp hb with z | z
    · subst z; exact .inr (.inl ⟨_, q⟩)
    · exact RpA.ownK ds vs g m r b z
theorem RpA.ownK : ∀ (ds : List D) (vs : List V) (f : List Addr), D.mayLendA ds = true → RpA B A H ds vs f → ∀ a ∈ f, OwnK (D.insNsA ds) (H a)
  | [], _, _, _, h => by rw [RpA] at h; rw [h.2]; simp
  | d :: ds, _, f, m, h => by
    rw [D.mayLendA, Bool.and_eq_true] at m
    rw [RpA] at h
    obtain ⟨v, vr, g, k, e, rfl, p, q⟩ := h
    rw [D.insNsA]
    intro a ha
    rcases List.mem_append.mp ha with z | z
    · exact (Rp.ownK d v g m.1 p a z).mono fun n hn => List.mem_append_left _ hn
    · exact (RpA.ownK ds vr k m.2 q a z).mono fun n hn => List.mem_append_right _ hn
end
theorem zip_ns : ∀ {ns ms : List Str} {vs us : List V}, ns.zip vs = ms.zip us → ns.length = vs.length → ms.length = us.length → ns = ms
  | [], [], _, _, _, _, _ => rfl
  | [], _ :: _, vs, us, h, _, l => by cases us with
    | nil => simp at l
    | cons u us => simp at h
  | _ :: _, [], vs, us, h, l, _ => by cases vs with
    | nil => simp at l
    | cons u us => simp at h
  | n :: ns, m :: ms, vs, us, h, l1, l2 => by
    cases vs with
    | nil => simp at l1
    | cons v vs => cases us with
      | nil => simp at l2
      | cons u us =>
        simp only [List.zip_cons_cons, List.cons.injEq, Prod.mk.injEq] at h
        rw [h.1.1, zip_ns h.2 (by simpa using l1) (by simpa using l2)]
mutual
/-- g0 is owned again -/
theorem Rp.againX (hg : ∀ a ∈ g0, OwnK nss (H a)) (hA : ∀ a, A2 a ↔ A a ∨ a ∈ g0) : ∀ (d : D) (v : V) (f : List Addr), d.noX nss = true → Rp B A H d v f → Rp B A2 H d v f
  | .non, _, _, _, h => by rw [Rp] at h ⊢; exact h
  | .bl _, _, _, _, h => by rw [Rp] at h ⊢; exact h
  | .int _, _, _, _, h => by rw [Rp] at h ⊢; exact h
  | .str _, _, _, _, h => by rw [Rp] at h ⊢; exact h
  | .ty _, _, _, _, h => by rw [Rp] at h ⊢; exact h
  | .fn _, _, _, _, h => by rw [Rp] at h ⊢; exact h
  | .tup ds, _, f, m, h => by
    rw [Rp] at h ⊢
    obtain ⟨a, vs, e, q, r⟩ := h
    exact ⟨a, vs, e, q, RpA.againX hg hA ds vs f m r⟩
  | .lst o ds, _, f, m, h => by
    rw [D.noX, Bool.and_eq_true] at m
    obtain ⟨mo, m⟩ := m
    subst mo
    rw [Rp] at h ⊢
    obtain ⟨a, vs, e, r, q1, q2, rfl⟩ := h
    exact ⟨a, vs, e, RpA.againX hg hA ds vs [] m r, q1, (hA a).mpr (.inl q2), rfl⟩
  | .ins o c ns ds, _, f, m, h => by
    rw [D.noX, Bool.and_eq_true] at m
    rw [Rp] at h ⊢
    obtain ⟨a, dx, vs, g, e, r, q0, ql, q⟩ := h
    refine ⟨a, dx, vs, g, e, RpA.againX hg hA ds vs g m.2 r, q0, ql, ?_⟩
    cases o with
    | true => exact ⟨(hA a).mpr (.inl q.1), q.2⟩
    | false =>
      refine ⟨fun z => ((hA a).mp z).elim q.1 fun z => ?_, q.2⟩
      have m1 : nss.contains ns = false := by simpa using m.1
      rcases hg a z with ⟨_, w⟩ | ⟨_, w⟩ | ⟨_, w⟩ | ⟨c2, dx2, ns2, vs2, w, wl, wm⟩
      · rw [q0] at w; cases w
      · rw [q0] at w; cases w
      · rw [q0] at w; cases w
      · rw [q0] at w
        simp only [Option.some.injEq, HO.ins.injEq] at w
        have := zip_ns w.2.2 (by rw [ql, RpA.len1 _ _ _ r]) wl
        subst this
        rw [List.contains_eq_mem] at m1
        simp at m1
        exact m1 wm
  | .dic o ks ds, _, f, m, h => by
    rw [D.noX, Bool.and_eq_true] at m
    obtain ⟨mo, m⟩ := m
    subst mo
    rw [Rp] at h ⊢
    obtain ⟨a, vs, e, r, q0, q1, q2⟩ := h
    exact ⟨a, vs, e, RpA.againX hg hA ds vs [] m r, q0, (hA a).mpr (.inl q1), q2⟩
  | .spring n, _, f, m, h => by
    rw [Rp] at h ⊢
    obtain ⟨S, l, e, rfl, q1, q2, q3⟩ := h
    exact ⟨S, l, e, rfl, (hA S).mpr (.inl q1), (hA l).mpr (.inl q2), q3⟩
  | .script, _, _, m, _ => by cases m
  | .box ds, _, f, m, h => by
    rw [Rp] at h ⊢
    obtain ⟨a, vs, g, e, r, q0, q2, rfl⟩ := h
    exact ⟨a, vs, g, e, RpA.againX hg hA ds vs g m r, q0, (hA a).mpr (.inl q2), rfl⟩
  | .reco ns ds, _, f, m, h => by
    rw [Rp] at h ⊢
    obtain ⟨a, vs, g, e, r, q0, ql, qn, q2, rfl⟩ := h
    exact ⟨a, vs, g, e, RpA.againX hg hA ds vs g m r, q0, ql, qn, (hA a).mpr (.inl q2), rfl⟩
  | .val _, _, _, _, h => by rw [Rp] at h ⊢; exact h
  | .exc _ _ _ _ _, _, _, m, _ => by cases m
theorem RpA.againX (hg : ∀ a ∈ g0, OwnK nss (H a)) (hA : ∀ a, A2 a ↔ A a ∨ a ∈ g0) : ∀ (ds : List D) (vs : List V) (f : List Addr), D.noXA nss ds = true → RpA B A H ds vs f → RpA B A2 H ds vs f
  | [], _, _, _, h => by rw [RpA] at h ⊢; exact h
  | d :: ds, _, f, m, h => by
    rw [D.noXA, Bool.and_eq_true] at m
    rw [RpA] at h ⊢
    obtain ⟨v, vr, g, k, e, rfl, p, q⟩ := h
    exact ⟨v, vr, g, k, e, rfl, Rp.againX hg hA d v g m.1 p, RpA.againX hg hA ds vr k m.2 q⟩
end
end
/-- a slot behind the expression: without frozen lists, or as it was -/
def okX (nss : List (List Str)) (x y : Option D) : Prop := match y with
  | none => True
  | some d => d.noX nss = true ∨ (x = some d ∧ d.isFz = true)
def brxAll (nss : List (List Str)) : Rho → Rho → Prop
  | [], [] => True
  | x :: ρ, y :: ρ' => okX nss x y ∧ brxAll nss ρ ρ'
  | _, _ => False
def brxOk (nss : List (List Str)) : Nat → Rho → Rho → Prop
  | 0, _ :: ρ, _ :: ρ' => brxAll nss ρ ρ'
  | i + 1, x :: ρ, y :: ρ' => okX nss x y ∧ brxOk nss i ρ ρ'
  | _, _, _ => False
/-- slot i is lent for reading -/
def wBrx (i : Nat) (w : WD) : WD := fun ρ Q X => sl ρ i fun d => d.mayLend = true ∧ w (ρ.set i (some d.freeze)) (fun r ρ' => r.noX d.insNs = true ∧ brxOk d.insNs i ρ ρ' ∧ Q r (ρ'.set i (some d))) fun _ _ => False
theorem wBrx_e {i : Nat} {w : WD} {ρ : Rho} {Q : QD} {X : XD} : wBrx i w ρ Q X = sl ρ i fun d => d.mayLend = true ∧ w (ρ.set i (some d.freeze)) (fun r ρ' => r.noX d.insNs = true ∧ brxOk d.insNs i ρ ρ' ∧ Q r (ρ'.set i (some d))) fun _ _ => False := rfl
section
variable {B : Bs} {A A1 A2 : Addr → Prop} {F F1 F2 : List Addr} {H H1 : Hp} {g0 : List Addr} {nss : List (List Str)}
theorem EnvR.brxAll (hN : ∀ d v g, d.noX nss = true → Rp B A1 H1 d v g → Rp B A2 H1 d v g) (hS : ∀ d v, d.isFz = true → Rp B A H d v [] → Rp B A2 H1 d v []) : ∀ (ρ ρ' : Rho) (σ : L2.St) (f f1 : List Addr), EnvR B A H ρ σ f → EnvR B A1 H1 ρ' σ f1 → DL.brxAll nss ρ ρ' → EnvR B A2 H1 ρ' σ f1
  | [], [], _, _, _, _, h, _ => by rw [EnvR] at h ⊢; exact h
  | [], _ :: _, _, _, _, _, _, h => h.elim
  | _ :: _, [], _, _, _, _, _, h => h.elim
  | x :: ρ, none :: ρ', _, f, f1, h0, h, ⟨_, hb⟩ => by
    rw [EnvR] at h ⊢
    obtain ⟨u, σr, rfl, h⟩ := h
    cases x with
    | none =>
      rw [EnvR] at h0
      obtain ⟨_, _, e, h0⟩ := h0
      cases e
      exact ⟨u, σr, rfl, EnvR.brxAll hN hS ρ ρ' σr _ _ h0 h hb⟩
    | some d0 =>
      rw [EnvR] at h0
      obtain ⟨_, _, _, _, e, _, _, h0⟩ := h0
      cases e
      exact ⟨_, σr, rfl, EnvR.brxAll hN hS ρ ρ' σr _ _ h0 h hb⟩
  | x :: ρ, some d :: ρ', _, f, f1, h0, h, ⟨ho, hb⟩ => by
    rw [EnvR] at h ⊢
    obtain ⟨v, σr, g, k, rfl, rfl, p, h⟩ := h
    cases x with
    | none =>
      rw [EnvR] at h0
      obtain ⟨_, _, e, h0⟩ := h0
      cases e
      refine ⟨v, σr, g, k, rfl, rfl, ?_, EnvR.brxAll hN hS ρ ρ' σr _ _ h0 h hb⟩
      rcases ho with z | ⟨z, _⟩
      · exact hN d v g z p
      · cases z
    | some d0 =>
      rw [EnvR] at h0
      obtain ⟨_, _, g1, k1, e, _, p0, h0⟩ := h0
      cases e
      refine ⟨v, σr, g, k, rfl, rfl, ?_, EnvR.brxAll hN hS ρ ρ' σr _ _ h0 h hb⟩
      rcases ho with z | ⟨z, m⟩
      · exact hN d v g z p
      · cases z
        have e1 := Rp.fz _ _ _ m p
        have e2 := Rp.fz _ _ _ m p0
        subst e1 e2
        exact hS _ _ m p0
theorem EnvR.brx (hN : ∀ d v g, d.noX nss = true → Rp B A1 H1 d v g → Rp B A2 H1 d v g) (hS : ∀ d v, d.isFz = true → Rp B A H d v [] → Rp B A2 H1 d v []) : ∀ (i : Nat) (ρ ρ' : Rho) (σ : L2.St) (f f1 : List Addr), EnvR B A H ρ σ f → EnvR B A1 H1 ρ' σ f1 → brxOk nss i ρ ρ' → i < ρ'.length ∧ ∃ f2, f2.Sublist f1 ∧ EnvR B A2 H1 (ρ'.set i none) σ f2
  | i, [], _, _, _, _, _, _, h => by cases i <;> exact h.elim
  | i, _ :: _, [], _, _, _, _, _, h => by cases i <;> exact h.elim
  | 0, x :: ρ, y :: ρ', σ, f, f1, h0, h, hb => by
    have hb : DL.brxAll nss ρ ρ' := hb
    have key : ∀ u σr, σ = u :: σr → ∃ fr, EnvR B A H ρ σr fr := fun u σr e => by
      subst e
      cases x with
      | none => rw [EnvR] at h0; obtain ⟨_, _, e, h0⟩ := h0; cases e; exact ⟨_, h0⟩
      | some d => rw [EnvR] at h0; obtain ⟨_, _, _, k, e, _, _, h0⟩ := h0; cases e; exact ⟨_, h0⟩
    refine ⟨by simp, ?_⟩
    rw [List.set_cons_zero]
    cases y with
    | none =>
      rw [EnvR] at h
      obtain ⟨u, σr, rfl, h⟩ := h
      obtain ⟨fr, h0⟩ := key _ _ rfl
      exact ⟨f1, .refl _, by rw [EnvR]; exact ⟨u, σr, rfl, EnvR.brxAll hN hS ρ ρ' σr _ _ h0 h hb⟩⟩
    | some d =>
      rw [EnvR] at h
      obtain ⟨u, σr, g, k, rfl, rfl, p, h⟩ := h
      obtain ⟨fr, h0⟩ := key _ _ rfl
      exact ⟨k, List.sublist_append_right .., by rw [EnvR]; exact ⟨_, σr, rfl, EnvR.brxAll hN hS ρ ρ' σr _ _ h0 h hb⟩⟩
  | i + 1, x :: ρ, y :: ρ', σ, f, f1, h0, h, ⟨ho, hb⟩ => by
    have key : ∀ u σr, σ = u :: σr → ∃ fr, EnvR B A H ρ σr fr ∧ ∀ d, x = some d → ∃ v g, u = some v ∧ Rp B A H d v g := fun u σr e => by
      subst e
      cases x with
      | none => rw [EnvR] at h0; obtain ⟨_, _, e, h0⟩ := h0; cases e; exact ⟨_, h0, fun d z => by cases z⟩
      | some d => rw [EnvR] at h0; obtain ⟨_, _, g1, k, e, _, p0, h0⟩ := h0; cases e; exact ⟨_, h0, fun d z => by cases z; exact ⟨_, _, rfl, p0⟩⟩
    rw [List.set_cons_succ]
    cases y with
    | none =>
      rw [EnvR] at h
      obtain ⟨u, σr, rfl, h⟩ := h
      obtain ⟨fr, h0, _⟩ := key _ _ rfl
      obtain ⟨hl, f2, s2, e2⟩ := EnvR.brx hN hS i ρ ρ' σr _ _ h0 h hb
      exact ⟨by simpa using hl, f2, s2, by rw [EnvR]; exact ⟨u, σr, rfl, e2⟩⟩
    | some d =>
      rw [EnvR] at h
      obtain ⟨u, σr, g, k, rfl, rfl, p, h⟩ := h
      obtain ⟨fr, h0, hx⟩ := key _ _ rfl
      obtain ⟨hl, f2, s2, e2⟩ := EnvR.brx hN hS i ρ ρ' σr _ _ h0 h hb
      refine ⟨by simpa using hl, g ++ f2, List.Sublist.append_left s2 g, ?_⟩
      rw [EnvR]
      refine ⟨_, σr, g, f2, rfl, rfl, ?_, e2⟩
      rcases ho with z | ⟨z, m⟩
      · exact hN d u g z p
      · obtain ⟨v, g1, ev, p0⟩ := hx d z
        cases ev
        have e1 := Rp.fz _ _ _ m p
        have e2 := Rp.fz _ _ _ m p0
        subst e1 e2
        exact hS _ _ m p0
end
section
variable {B : Bs} {X : Cx} {pr : Nat → Option V} {W : WX} {e : Expr} {w : WD}
theorem lift_brx {i : Nat} {σ : L2.St} {H : Hp} {Q : VK} (h : liftE B pr W (wBrx i w) σ H Q) : liftE B pr W w σ H Q := by
  obtain ⟨A, F, ρ, Qd, Xd, en, h, hq, hx⟩ := h
  obtain ⟨d, hi, mf, h⟩ := sl_iff.mp h
  obtain ⟨v, f1, g, f2, ev, rfl, p, back⟩ := EnvR.at_ ρ σ F i d hi en.r
  have nd := en.nd
  have nd2 : (f1 ++ f2).Nodup := nd.sublist (by rw [List.append_assoc]; exact List.Sublist.append_left (List.sublist_append_right ..) _)
  have hs : ∀ a ∈ f1 ++ f2, a ∉ g := fun a ha hg => by
    rw [List.append_assoc] at nd
    have n1 := List.nodup_append.mp nd
    rcases List.mem_append.mp ha with ha | ha
    · exact n1.2.2 a ha a (List.mem_append_left _ hg) rfl
    · exact (List.nodup_append.mp n1.2.1).2.2 a hg a ha rfl
  have hf : ∀ a ∈ f1 ++ f2, a ∈ f1 ++ g ++ f2 := fun a ha => by rcases List.mem_append.mp ha with ha | ha <;> simp [ha]
  have hgl := Rp.ownK d v g mf p
  have hgA := Rp.own d v g p
  have t0 : Step A (f1 ++ g ++ f2) H (Less A g) (f1 ++ f2) H := ⟨.refl _, fun a ha => .inl (hf a ha), fun a ha => .inl ha.1, fun a ha n => ⟨ha, fun z => n (by simp [z])⟩⟩
  have e0 : Env B (Less A g) H pr σ (ρ.set i (some d.freeze)) (f1 ++ f2) := by
    refine ⟨?_, nd2, fun a ha => en.al a ha.1, en.pr⟩
    have r := back (Less A g) H d.freeze v [] (fun r s h a b => EnvR.less g r s h (fun z hz => hs z (b z hz)) a) (Rp.lend g d v g (fun _ h => h) mf p)
    rw [set_same ev] at r
    simpa using r
  refine ⟨Less A g, f1 ++ f2, _, _, _, e0, h, fun r ρ' hd A1 F1 H1 x fx o => ?_, fun _ _ z => z.elim⟩
  obtain ⟨hn, hb, hd⟩ := hd
  have st := o.step
  -- the lists stand as they stood
  have gat : ∀ a ∈ g, H1 a = H a := fun a ha => by
    cases hx : H a with
    | none => exact absurd hx (hgA a ha).2
    | some u => exact st.keep.at_ a _ (fun z => hs a z ha) hx
  have gno : ∀ a ∈ g, ¬ A1 a := fun a ha z => (st.ao a z).elim (fun q => q.2 ha) (hgA a ha).2
  have A2e : ∀ a, (fun a => A1 a ∨ a ∈ g) a ↔ A1 a ∨ a ∈ g := fun _ => Iff.rfl
  have hgl1 : ∀ a ∈ g, OwnK d.insNs (H1 a) := fun a ha => by rw [gat a ha]; exact hgl a ha
  have hN : ∀ d2 v g', d2.noX d.insNs = true → Rp B A1 H1 d2 v g' → Rp B (fun a => A1 a ∨ a ∈ g) H1 d2 v g' := fun d2 v g' m p => Rp.againX hgl1 A2e d2 v g' m p
  have sk : Keep (f1 ++ f2) H H1 := st.keep
  have fa := en.fa
  have s0 : Stays A (f1 ++ f2) H (fun a => A1 a ∨ a ∈ g) H1 := ⟨sk, fun a ha => fa a (hf a ha), fun a ha => by
    rcases ha with z | z
    · exact (st.ao a z).imp (fun q => q.1) id
    · exact .inl (fa a (by simp [z])), fun a ha n => by
    by_cases z : a ∈ g
    · exact .inr z
    · exact .inl (st.ak a ⟨ha, z⟩ n)⟩
  have hS : ∀ d v, d.isFz = true → Rp B A H d v [] → Rp B (fun a => A1 a ∨ a ∈ g) H1 d v [] := fun d v _ p => Rp.stay s0 d v [] (by simp) p
  obtain ⟨hlen, f3, sub, r3⟩ := EnvR.brx hN hS i _ _ _ _ _ en.r o.env.r hb
  have pg : Rp B (fun a => A1 a ∨ a ∈ g) H1 d v g := Rp.stay s0 d v g (fun a ha z => hs a z ha) p
  obtain ⟨u1, u2, rfl, r4⟩ := EnvR.put (ρ'.set i none) σ f3 i d v g (by simpa using hlen) (by simp [hlen]) r3 pg
  rw [List.set_set, set_same ev] at r4
  have gx : ∀ a ∈ fx, a ∉ g := fun a ha z => (o.src a ha).elim (fun q => hs a q z) (hgA a z).2
  have gu : ∀ a ∈ u1 ++ u2, a ∉ g := fun a ha z => (st.fo a (sub.subset ha)).elim (fun q => hs a q z) (hgA a z).2
  have ngx : g.Nodup := (List.nodup_append.mp (List.nodup_append.mp nd).1).2.1
  have nu := o.env.nd.sublist sub
  have nx := (List.nodup_append.mp o.nd)
  have nds : (u1 ++ g ++ u2).Nodup := by
    have h1 := List.nodup_append.mp nu
    refine List.nodup_append.mpr ⟨List.nodup_append.mpr ⟨h1.1, ngx, fun a ha b hb e => gu a (by simp [ha]) (by rw [e]; exact hb)⟩, h1.2.1, fun a ha b hb e => ?_⟩
    rcases List.mem_append.mp ha with z | z
    · exact h1.2.2 a z b hb e
    · exact gu b (by simp [hb]) (by rw [← e]; exact z)
  have al2 : ∀ a, (A1 a ∨ a ∈ g) → H1 a ≠ none := fun a ha => by
    rcases ha with z | z
    · exact o.env.al a z
    · rw [gat a z]; exact (hgA a z).2
  refine hq _ _ hd (fun a => A1 a ∨ a ∈ g) (u1 ++ g ++ u2) H1 x fx ⟨⟨⟨fun b ob n hb => sk.at_ b ob (fun z => n (hf b z)) hb, sk.imm⟩, fun a ha => ?_, s0.ao, fun a ha n => s0.ak a ha fun z => n (hf a z)⟩, ⟨r4, nds, al2, o.env.pr⟩, hN _ _ _ hn o.val, ?_, fun a ha => (o.src a ha).imp (hf a) id⟩
  · rcases List.mem_append.mp ha with z | z
    · rcases List.mem_append.mp z with z | z
      · exact (st.fo a (sub.subset (by simp [z]))).imp (hf a) id
      · exact .inl (by simp [z])
    · exact (st.fo a (sub.subset (by simp [z]))).imp (hf a) id
  · refine List.nodup_append.mpr ⟨nx.1, nds, fun a ha b hb e => ?_⟩
    rcases List.mem_append.mp hb with z | z
    · rcases List.mem_append.mp z with z | z
      · exact nx.2.2 a ha b (sub.subset (by simp [z])) e
      · exact gx a ha (by rw [e]; exact z)
    · exact nx.2.2 a ha b (sub.subset (by simp [z])) e
theorem de_brx (i : Nat) (h : DE B X pr W e w) : DE B X pr W e (wBrx i w) := peW h fun _ _ _ h => lift_brx h
end
end DL
namespace DL
open PySem PySem.Spec PyProof.Rows L2 PB
inductive Acc where
  | f (cs : List Str) (n : Str)
  | k (s : Str)
def setN (f : Str) (x : D) : List Str → List D → List D
  | n :: ns, d :: ds => bif f == n then x :: ds else d :: setN f x ns ds
  | _, ds => ds
theorem setN_len (f : Str) (x : D) : ∀ (ns : List Str) (ds : List D), (setN f x ns ds).length = ds.length
  | [], _ => rfl
  | _ :: _, [] => rfl
  | n :: ns, d :: ds => by
    rw [setN]
    cases f == n with
    | true => rfl
    | false => simp [setN_len f x ns ds]
def getA : Acc → D → Option D
  | .f cs n, d => match d with
    | .ins true c ns ds => bif cs.contains c then (ns.zip ds).lookup n else none
    | _ => none
  | .k s, d => match d with
    | .reco ns ds => (ns.zip ds).lookup s
    | _ => none
def setA : Acc → D → D → D
  | .f _ n, d, x => match d with
    | .ins o c ns ds => .ins o c ns (setN n x ns ds)
    | d => d
  | .k s, d, x => match d with
    | .reco ns ds => .reco ns (setN s x ns ds)
    | d => d
def getP : List Acc → D → Option D
  | [], d => some d
  | a :: p, d => match getA a d with
    | some e => getP p e
    | none => none
def setP : List Acc → D → D → D
  | [], _, x => x
  | a :: p, d, x => match getA a d with
    | some e => setA a d (setP p e x)
    | none => d
def tAcc (K : PySem.W.Frag) : Acc → TE → TE
  | .f _ n, t => tFld K t n
  | .k s, t => tDGet t (tC (.str s))
def tP (K : PySem.W.Frag) : List Acc → TE → TE
  | [], t => t
  | a :: p, t => tP K p (tAcc K a t)
def AccOk (K : PySem.W.Frag) : Acc → Prop
  | .f cs n => FldOk K n cs
  | .k _ => True
inductive PthOk (K : PySem.W.Frag) : List Acc → Prop
  | nil : PthOk K []
  | fld {cs : List Str} {n : Str} {p : List Acc} (h : FldOk K n cs) (r : PthOk K p) : PthOk K (.f cs n :: p)
  | key {s : Str} {p : List Acc} (r : PthOk K p) : PthOk K (.k s :: p)
theorem str_beq {a b : Str} : (a == b) = decide (a = b) := by
  by_cases h : a = b
  · subst h; simp
  · simp [h]
section
variable {B : Bs} {A : Addr → Prop} {H : Hp}
/-- what is told of other things stays -/
def Oth (B : Bs) (A : Addr → Prop) (H : Hp) (A' : Addr → Prop) (H' : Hp) (g : List Addr) : Prop := ∀ x w h, (∀ a ∈ h, a ∈ g) → Rp B A H x w h → Rp B A' H' x w h
theorem Oth.all {A' : Addr → Prop} {H' : Hp} {g : List Addr} (o : Oth B A H A' H' g) : ∀ (ds : List D) (vs : List V) (h : List Addr), (∀ a ∈ h, a ∈ g) → RpA B A H ds vs h → RpA B A' H' ds vs h
  | [], _, _, _, r => by rw [RpA] at r ⊢; exact r
  | d :: ds, _, _, hh, r => by
    rw [RpA] at r ⊢
    obtain ⟨v, vr, g1, g2, rfl, rfl, p, q⟩ := r
    exact ⟨v, vr, g1, g2, rfl, rfl, o d v g1 (fun a ha => hh a (List.mem_append_left _ ha)) p, Oth.all o ds vr g2 (fun a ha => hh a (List.mem_append_right _ ha)) q⟩
theorem zipAt {f : Str} {d : D} : ∀ (ns : List Str) (ds : List D) (vs : List V) (g : List Addr), RpA B A H ds vs g → (ns.zip ds).lookup f = some d → ∃ v g1 g2 g3, g = g1 ++ g2 ++ g3 ∧ (ns.zip vs).lookup f = some v ∧ Rp B A H d v g2 ∧
    ∀ A' H' d' g2', Oth B A H A' H' (g1 ++ g3) → Rp B A' H' d' v g2' → RpA B A' H' (setN f d' ns ds) vs (g1 ++ g2' ++ g3)
  | [], _, _, _, _, h => by simp at h
  | n :: ns, [], _, _, _, h => by simp at h
  | n :: ns, d0 :: ds, _, g, r, h => by
    rw [RpA] at r
    obtain ⟨v, vr, h1, h2, rfl, rfl, p, q⟩ := r
    rw [List.zip_cons_cons, List.lookup_cons] at h ⊢
    cases m : f == n with
    | true =>
      rw [m] at h
      cases h
      refine ⟨v, [], h1, h2, rfl, rfl, p, fun A' H' d' g2' o p' => ?_⟩
      rw [setN, m, cond_true, RpA]
      exact ⟨v, vr, g2', h2, rfl, rfl, p', o.all _ _ _ (fun a ha => by simpa using ha) q⟩
    | false =>
      rw [m] at h
      obtain ⟨v', k1, k2, k3, rfl, e1, p1, back⟩ := zipAt ns ds vr h2 q h
      refine ⟨v', h1 ++ k1, k2, k3, by simp, e1, p1, fun A' H' d' g2' o p' => ?_⟩
      rw [setN, m, cond_false, RpA]
      exact ⟨v, vr, h1, k1 ++ g2' ++ k3, rfl, by simp, o _ _ _ (fun a ha => by simp [ha]) p, back A' H' d' g2' (fun x w h hh => o x w h fun a ha => by have := hh a ha; simp at this ⊢; rcases this with z | z <;> simp [z]) p'⟩
theorem valV_zip (s : Str) : ∀ (ns : List Str) (vs : List V), valV ((ns.map (Sum.inr : Str → Key)).zip vs) (Sum.inr s) = (ns.zip vs).lookup s
  | [], _ => rfl
  | n :: ns, [] => rfl
  | n :: ns, v :: vs => by
    rw [List.map_cons, List.zip_cons_cons, List.zip_cons_cons, List.lookup_cons, str_beq]
    unfold valV
    rw [List.find?_cons]
    by_cases h : n = s
    · subst h
      rw [decide_eq_true rfl, decide_eq_true rfl]
      rfl
    · have h1 : decide ((Sum.inr n : Key) = Sum.inr s) = false := decide_eq_false fun z => h (Sum.inr.inj z)
      rw [h1, decide_eq_false (fun z => h z.symm)]
      exact valV_zip s ns vs
/-- one step down -/
theorem accR {a : Acc} {d e : D} {v : V} {g : List Addr} (ok : AccOk B.K a) (r : Rp B A H d v g) (h : getA a d = some e) : ∃ u g1 g2 g3, g = g1 ++ g2 ++ g3 ∧ Rp B A H e u g2 ∧ (∀ t σ Q, (∀ Q' : VK, Q' v H → t σ H Q') → Q u H → tAcc B.K a t σ H Q) ∧
    ∀ A' H' e' g2', Oth B A H A' H' (g1 ++ g3) → (∀ b ∈ g1, A' b ∧ H' b = H b) → Rp B A' H' e' u g2' → Rp B A' H' (setA a d e') v (g1 ++ g2' ++ g3) := by
  cases a with
  | f cs n =>
    cases d <;> first | (cases h; done) | skip
    rename_i o c ns ds
    cases o with
    | false => cases h
    | true =>
      have h : (bif cs.contains c then (ns.zip ds).lookup n else none) = some e := h
      cases hc : cs.contains c with
      | false => rw [hc] at h; cases h
      | true =>
        rw [hc, cond_true] at h
        rw [Rp] at r
        obtain ⟨a, dx, vs, g, rfl, r, q0, ql, qa, rfl⟩ := r
        obtain ⟨u, g1, g2, g3, rfl, e1, p, back⟩ := zipAt ns ds vs g r h
        obtain ⟨c1, c2⟩ := FldOk.at_ ok c hc
        refine ⟨u, a :: g1, g2, g3, rfl, p, fun t σ Q ht hq => ht _ ⟨a, _, dx, _, u, rfl, q0, c1, c2, e1, hq⟩, fun A' H' e' g2' o hb p' => ?_⟩
        show Rp B A' H' (.ins true c ns (setN n e' ns ds)) _ _
        rw [Rp]
        obtain ⟨b1, b2⟩ := hb a (List.mem_cons_self ..)
        exact ⟨a, dx, vs, _, rfl, back A' H' e' g2' (fun x w h hh => o x w h fun z hz => List.mem_cons_of_mem _ (hh z hz)) p', by rw [b2]; exact q0, by rw [setN_len]; exact ql, b1, rfl⟩
  | k s =>
    cases d <;> first | (cases h; done) | skip
    rename_i ns ds
    have h : (ns.zip ds).lookup s = some e := h
    rw [Rp] at r
    obtain ⟨a, vs, g, rfl, r, q0, ql, qn, qa, rfl⟩ := r
    obtain ⟨u, g1, g2, g3, rfl, e1, p, back⟩ := zipAt ns ds vs g r h
    refine ⟨u, a :: g1, g2, g3, rfl, p, fun t σ Q ht hq => ht _ ⟨a, u, rfl, ?_, hq⟩, fun A' H' e' g2' o hb p' => ?_⟩
    · have := DGet.k (k := Sum.inr s) q0
      rw [valV_zip, e1] at this
      exact this
    · show Rp B A' H' (.reco ns (setN s e' ns ds)) _ _
      rw [Rp]
      obtain ⟨b1, b2⟩ := hb a (List.mem_cons_self ..)
      exact ⟨a, vs, _, rfl, back A' H' e' g2' (fun x w h hh => o x w h fun z hz => List.mem_cons_of_mem _ (hh z hz)) p', by rw [b2]; exact q0, by rw [setN_len]; exact ql, qn, b1, rfl⟩
/-- down a path -/
theorem pathR : ∀ (p : List Acc) {d e : D} {v : V} {g : List Addr}, PthOk B.K p → Rp B A H d v g → getP p d = some e → ∃ u g1 g2 g3, g = g1 ++ g2 ++ g3 ∧ Rp B A H e u g2 ∧ (∀ t σ Q, (∀ Q' : VK, Q' v H → t σ H Q') → Q u H → tP B.K p t σ H Q) ∧
    ∀ A' H' e' g2', Oth B A H A' H' (g1 ++ g3) → (∀ b ∈ g1 ++ g3, A' b ∧ H' b = H b) → Rp B A' H' e' u g2' → Rp B A' H' (setP p d e') v (g1 ++ g2' ++ g3)
  | [], d, e, v, g, _, r, h => by
    cases h
    exact ⟨v, [], g, [], by simp, r, fun t σ Q ht hq => ht Q hq, fun A' H' e' g2' o hb p' => by simpa [setP] using p'⟩
  | a :: p, d, e, v, g, ok, r, h => by
    have okA : AccOk B.K a := by cases ok with
      | fld hf _ => exact hf
      | key _ => trivial
    have okP : PthOk B.K p := by cases ok <;> assumption
    rw [getP] at h
    cases ha : getA a d with
    | none => rw [ha] at h; cases h
    | some m =>
      rw [ha] at h
      obtain ⟨u1, g1, g2, g3, rfl, r1, rd1, back1⟩ := accR okA r ha
      obtain ⟨u, k1, k2, k3, rfl, r2, rd2, back2⟩ := pathR p okP r1 h
      refine ⟨u, g1 ++ k1, k2, k3 ++ g3, by simp, r2, fun t σ Q ht hq => rd2 _ σ Q (fun Q' hq' => rd1 t σ Q' ht hq') hq, fun A' H' e' g2' o hb p' => ?_⟩
      rw [setP, ha]
      have := back1 A' H' (setP p m e') (k1 ++ g2' ++ k3) (fun x w h hh => o x w h fun z hz => by have := hh z hz; simp at this ⊢; rcases this with w | w <;> simp [w]) (fun b hb' => hb b (by simp [hb'])) (back2 A' H' e' g2' (fun x w h hh => o x w h fun z hz => by have := hh z hz; simp at this ⊢; rcases this with w | w <;> simp [w]) (fun b hb' => hb b (by simp at hb' ⊢; rcases hb' with w | w <;> simp [w])) p')
      simpa using this
end
section
variable {B : Bs} {A A1 A2 : Addr → Prop} {F F1 F2 : List Addr} {H H1 H2 : Hp} {pr : Nat → Option V} {σ : L2.St} {ρ ρ1 ρ2 : Rho} {i : Nat} {p : List Acc} {d0 e : D}
/-- what stands at a place of a slot is changed, after other things were done while the slot was out -/
theorem Env.placeG (en : Env B A H pr σ ρ F) (hi : ρ[i]? = some (some d0)) (ok : PthOk B.K p) (hp : getP p d0 = some e) :
    ∃ u g2 F0 v g, (σ[i]? = some (some v) ∧ Rp B A H d0 v g ∧ (∀ a ∈ F0, a ∉ g) ∧ (∀ a ∈ g, a ∈ F)) ∧ (∀ Q : VK, Q u H → tP B.K p (tVar i) σ H Q) ∧ Rp B A H e u g2 ∧ Env B A H pr σ (ρ.set i none) F0 ∧ (∀ a ∈ F0, a ∉ g2) ∧ (∀ a ∈ F0, a ∈ F) ∧ (∀ a ∈ g2, a ∈ F) ∧ g2.Nodup ∧
      ∀ A1 F1 H1 ρ1, Step A F0 H A1 F1 H1 → Env B A1 H1 pr σ ρ1 F1 → ρ1[i]? = some none → Rp B A1 H1 e u g2 ∧ (∀ a ∈ g2, a ∉ F1 ∧ A1 a) ∧
        ∀ fx A2 H2 e' g2' f, (∀ a ∈ fx, A1 a ∧ a ∉ F1 ∧ a ∉ g2 ∧ (a ∈ F0 ∨ H a = none ∨ a ∉ F)) → Step A1 (g2 ++ fx) H1 A2 g2' H2 → Rp B A2 H2 e' u g2' → (f ++ g2').Nodup → (∀ a, A2 a → H2 a ≠ none) → (∀ a ∈ f, a ∈ g2 ++ fx ∨ H1 a = none) →
          ∃ F2, Env B A2 H2 pr σ (ρ1.set i (some (setP p d0 e'))) F2 ∧ Step A (fx ++ F) H A2 F2 H2 ∧ (f ++ F2).Nodup ∧ ∀ a ∈ f, a ∈ fx ++ F ∨ H a = none := by
  obtain ⟨v, f1, g, f2, ev, rfl, pd, er⟩ := EnvR.take ρ σ F i d0 hi en.r
  obtain ⟨u, g1, g2, g3, rfl, r2, rd, back⟩ := pathR p ok pd hp
  have nd := en.nd
  have nd2 : (f1 ++ f2).Nodup := nd.sublist (by rw [List.append_assoc]; exact List.Sublist.append_left (List.sublist_append_right ..) _)
  have n1 := List.nodup_append.mp nd
  have n2 := List.nodup_append.mp n1.1
  have ng : (g1 ++ g2 ++ g3).Nodup := n2.2.1
  have n3 := List.nodup_append.mp ng
  have n4 := List.nodup_append.mp n3.1
  have off : ∀ a ∈ f1 ++ f2, a ∉ g1 ++ g2 ++ g3 := fun a ha hb => by
    rcases List.mem_append.mp ha with ha | ha
    · exact n2.2.2 a ha a hb rfl
    · exact n1.2.2 a (List.mem_append_right _ hb) a ha rfl
  have sub0 : ∀ a ∈ f1 ++ f2, a ∈ f1 ++ (g1 ++ g2 ++ g3) ++ f2 := fun a ha => by rcases List.mem_append.mp ha with z | z <;> simp [z]
  have e0 : Env B A H pr σ (ρ.set i none) (f1 ++ f2) := ⟨er, nd2, en.al, en.pr⟩
  have gA := Rp.own _ _ _ pd
  refine ⟨u, g2, f1 ++ f2, v, g1 ++ g2 ++ g3, ⟨ev, pd, off, fun a ha => List.mem_append_left _ (List.mem_append_right _ ha)⟩, fun Q hq => rd _ σ Q (fun Q' hq' => ⟨v, ev, hq'⟩) hq, r2, e0, fun a ha hb => off a ha (by simp [hb]), sub0, fun a ha => by simp [ha], n4.2.1, fun A1 F1 H1 ρ1 st e1 hi1 => ?_⟩
  have st0 := st.stays e0
  have goff : ∀ a ∈ g1 ++ g2 ++ g3, a ∉ f1 ++ f2 := fun a ha hb => off a hb ha
  have gF1 : ∀ a ∈ g1 ++ g2 ++ g3, a ∉ F1 := fun a ha hb => (st.fo a hb).elim (goff a ha) (gA a ha).2
  have gA1 : ∀ a ∈ g1 ++ g2 ++ g3, A1 a := fun a ha => st.ak a (gA a ha).1 (goff a ha)
  have gH1 : ∀ a ∈ g1 ++ g2 ++ g3, H1 a = H a := fun a ha => by
    cases hx : H a with
    | none => exact absurd hx (gA a ha).2
    | some w => exact st.keep.at_ a w (goff a ha) hx
  refine ⟨Rp.stay st0 _ _ _ (fun a ha => goff a (by simp [ha])) r2, fun a ha => ⟨gF1 a (by simp [ha]), gA1 a (by simp [ha])⟩, fun fx A2 H2 e' g2' f hfx s2 p2 ndf al2 src => ?_⟩
  have gfx : ∀ a ∈ g1 ++ g3, a ∉ g2 ++ fx := fun a ha hb => by
    rcases List.mem_append.mp hb with z | z
    · rcases List.mem_append.mp ha with w | w
      · exact n4.2.2 a w a z rfl
      · exact n3.2.2 a (by simp [z]) a w rfl
    · obtain ⟨_, _, _, q⟩ := hfx a z
      have : a ∈ g1 ++ g2 ++ g3 := by rcases List.mem_append.mp ha with w | w <;> simp [w]
      rcases q with q | q | q
      · exact goff a this q
      · exact (gA a this).2 q
      · exact q (by simp at this ⊢; rcases this with w | w | w <;> simp [w])
  have F1x : ∀ a ∈ F1, a ∉ g2 ++ fx := fun a ha hb => by
    rcases List.mem_append.mp hb with z | z
    · exact gF1 a (by simp [z]) ha
    · exact (hfx a z).2.1 ha
  have A1x : ∀ a ∈ g2 ++ fx, A1 a := fun a ha => by
    rcases List.mem_append.mp ha with z | z
    · exact gA1 a (by simp [z])
    · exact (hfx a z).1
  have st2 : Stays A1 (g2 ++ fx) H1 A2 H2 := ⟨s2.keep, A1x, s2.ao, s2.ak⟩
  have m13 : ∀ a ∈ g1 ++ g3, a ∈ g1 ++ g2 ++ g3 := fun a ha => by rcases List.mem_append.mp ha with w | w <;> simp [w]
  have pd2 : Rp B A2 H2 (setP p d0 e') v (g1 ++ g2' ++ g3) := back A2 H2 e' g2' (fun x w h hh r => Rp.stay st2 _ _ _ (fun a ha => gfx a (hh a ha)) (Rp.stay st0 _ _ _ (fun a ha => goff a (m13 a (hh a ha))) r)) (fun b hb => ⟨s2.ak b (gA1 b (m13 b hb)) (gfx b hb), by
    have h1 := gH1 b (m13 b hb)
    cases hx : H b with
    | none => exact absurd hx (gA b (m13 b hb)).2
    | some w => exact s2.keep.at_ b w (gfx b hb) (by rw [h1]; exact hx)⟩) p2
  have er2 : EnvR B A2 H2 ρ1 σ F1 := EnvR.stay st2 _ _ _ F1x e1.r
  have hl1 : i < ρ1.length := (List.getElem?_eq_some_iff.mp hi1).1
  obtain ⟨q1, q2, rfl, er3⟩ := EnvR.put ρ1 σ F1 i _ v _ hl1 hi1 er2 pd2
  rw [set_same ev] at er3
  have orig : ∀ a, (a ∈ g2 ++ fx ∨ H1 a = none) → a ∈ fx ++ (f1 ++ (g1 ++ g2 ++ g3) ++ f2) ∨ H a = none := fun a h => by
    rcases h with h | h
    · rcases List.mem_append.mp h with z | z
      · exact .inl (by simp [z])
      · exact .inl (by simp [z])
    · by_cases hf : a ∈ f1 ++ f2
      · exact .inl (List.mem_append_right _ (sub0 a hf))
      · exact .inr (st.keep.free hf h)
  have nH1 : ∀ a, a ∈ g1 ++ g3 ∨ a ∈ q1 ++ q2 → H1 a ≠ none := fun a h => by
    rcases h with h | h
    · rw [gH1 a (m13 a h)]; exact (gA a (m13 a h)).2
    · exact e1.al a (e1.fa a h)
  have sep : ∀ a, (a ∈ g2 ++ fx ∨ H1 a = none) → a ∉ g1 ++ g3 ∧ a ∉ q1 ++ q2 := fun a h => by
    rcases h with h | h
    · exact ⟨fun z => gfx a z h, fun z => F1x a z h⟩
    · exact ⟨fun z => nH1 a (.inl z) h, fun z => nH1 a (.inr z) h⟩
  have nf := List.nodup_append.mp ndf
  have s2fo : ∀ a ∈ g2', a ∉ g1 ++ g3 ∧ a ∉ q1 ++ q2 := fun a ha => sep a (s2.fo a ha)
  have fsep : ∀ a ∈ f, a ∉ g1 ++ g3 ∧ a ∉ q1 ++ q2 := fun a ha => sep a (src a ha)
  have n13 : (g1 ++ g3).Nodup := ng.sublist (by rw [List.append_assoc]; exact List.Sublist.append_left (List.sublist_append_right ..) _)
  have p13 := List.nodup_append.mp n13
  have nq := List.nodup_append.mp e1.nd
  have gq : ∀ a ∈ g1 ++ g3, a ∉ q1 ++ q2 := fun a ha => gF1 a (m13 a ha)
  have nmid : (g1 ++ g2' ++ g3).Nodup := by
    refine List.nodup_append.mpr ⟨List.nodup_append.mpr ⟨p13.1, nf.2.1, fun a ha b hb z => ?_⟩, p13.2.1, fun a ha b hb z => ?_⟩
    · subst z; exact (s2fo a hb).1 (by simp [ha])
    · subst z
      rcases List.mem_append.mp ha with w | w
      · exact p13.2.2 a w a hb rfl
      · exact (s2fo a w).1 (by simp [hb])
  have midq : ∀ a ∈ g1 ++ g2' ++ g3, a ∉ q1 ++ q2 := fun a ha => by
    rcases List.mem_append.mp ha with w | w
    · rcases List.mem_append.mp w with w | w
      · exact gq a (by simp [w])
      · exact (s2fo a w).2
    · exact gq a (by simp [w])
  have nall : (q1 ++ (g1 ++ g2' ++ g3) ++ q2).Nodup := by
    refine List.nodup_append.mpr ⟨List.nodup_append.mpr ⟨nq.1, nmid, fun a ha b hb z => ?_⟩, nq.2.1, fun a ha b hb z => ?_⟩
    · subst z; exact midq a hb (by simp [ha])
    · subst z
      rcases List.mem_append.mp ha with w | w
      · exact nq.2.2 a w a hb rfl
      · exact midq a w (by simp [hb])
  refine ⟨q1 ++ (g1 ++ g2' ++ g3) ++ q2, ⟨er3, nall, al2, e1.pr⟩, ⟨⟨fun b o n hb => ?_, fun b o im hb => s2.keep.imm b o im (st.keep.imm b o im hb)⟩, fun a ha => ?_, fun a ha => ?_, fun a ha n => ?_⟩, ?_, fun a ha => orig a (src a ha)⟩
  · refine s2.keep.at_ b o (fun z => ?_) (st.keep.at_ b o (fun z => n (List.mem_append_right _ (sub0 b z))) hb)
    rcases List.mem_append.mp z with w | w
    · exact n (by simp [w])
    · exact n (by simp [w])
  · have : a ∈ q1 ++ q2 ∨ a ∈ g1 ++ g3 ∨ a ∈ g2' := by
      simp at ha ⊢
      rcases ha with w | w | w | w | w <;> simp [w]
    rcases this with w | w | w
    · exact (st.fo a w).imp (fun z => List.mem_append_right _ (sub0 a z)) id
    · exact .inl (by have := m13 a w; simp at this ⊢; rcases this with z | z | z <;> simp [z])
    · exact orig a (s2.fo a w)
  · rcases s2.ao a ha with w | w
    · exact st.ao a w
    · by_cases hf : a ∈ f1 ++ f2
      · exact .inl (en.fa a (sub0 a hf))
      · exact .inr (st.keep.free hf w)
  · refine s2.ak a (st.ak a ha fun z => n (List.mem_append_right _ (sub0 a z))) fun z => ?_
    rcases List.mem_append.mp z with w | w
    · exact n (by simp [w])
    · exact n (by simp [w])
  · refine List.nodup_append.mpr ⟨nf.1, nall, fun a ha b hb z => ?_⟩
    subst z
    have : a ∈ q1 ++ q2 ∨ a ∈ g1 ++ g3 ∨ a ∈ g2' := by
      simp at hb ⊢
      rcases hb with w | w | w | w | w <;> simp [w]
    rcases this with w | w | w
    · exact (fsep a ha).2 w
    · exact (fsep a ha).1 w
    · exact nf.2.2 a ha a w rfl
theorem Env.place (en : Env B A H pr σ ρ F) (hi : ρ[i]? = some (some d0)) (ok : PthOk B.K p) (hp : getP p d0 = some e) :
    ∃ u g2 F0, (∀ Q : VK, Q u H → tP B.K p (tVar i) σ H Q) ∧ Rp B A H e u g2 ∧ Env B A H pr σ (ρ.set i none) F0 ∧ (∀ a ∈ F0, a ∉ g2) ∧ (∀ a ∈ F0, a ∈ F) ∧ (∀ a ∈ g2, a ∈ F) ∧ g2.Nodup ∧
      ∀ A1 F1 H1 ρ1, Step A F0 H A1 F1 H1 → Env B A1 H1 pr σ ρ1 F1 → ρ1[i]? = some none → Rp B A1 H1 e u g2 ∧ (∀ a ∈ g2, a ∉ F1 ∧ A1 a) ∧
        ∀ fx A2 H2 e' g2' f, (∀ a ∈ fx, A1 a ∧ a ∉ F1 ∧ a ∉ g2 ∧ (a ∈ F0 ∨ H a = none ∨ a ∉ F)) → Step A1 (g2 ++ fx) H1 A2 g2' H2 → Rp B A2 H2 e' u g2' → (f ++ g2').Nodup → (∀ a, A2 a → H2 a ≠ none) → (∀ a ∈ f, a ∈ g2 ++ fx ∨ H1 a = none) →
          ∃ F2, Env B A2 H2 pr σ (ρ1.set i (some (setP p d0 e'))) F2 ∧ Step A (fx ++ F) H A2 F2 H2 ∧ (f ++ F2).Nodup ∧ ∀ a ∈ f, a ∈ fx ++ F ∨ H a = none := by
  obtain ⟨u, g2, F0, v, g, _, h⟩ := en.placeG hi ok hp
  exact ⟨u, g2, F0, h⟩
/-- the slot, frozen while something is found -/
theorem Env.lendIn {v : V} {g F0 : List Addr} (e0 : Env B A H pr σ (ρ.set i none) F0) (hl : i < ρ.length) (mf : d0.mayLend = true) (ev : σ[i]? = some (some v)) (pd : Rp B A H d0 v g) (sep : ∀ a ∈ F0, a ∉ g) : Env B (Less A g) H pr σ (ρ.set i (some d0.freeze)) F0 := by
  have e1 := e0.less g sep
  obtain ⟨f1, f2, rfl, r⟩ := EnvR.put (ρ.set i none) σ F0 i d0.freeze v [] (by simpa using hl) (by rw [List.getElem?_set]; simp [hl]) e1.r (Rp.lend g d0 v g (fun _ h => h) mf pd)
  rw [set_same ev, List.set_set] at r
  exact ⟨by simpa using r, e1.nd, e1.al, e1.pr⟩
theorem Env.lendOut {v : V} {g F0 : List Addr} (en : Env B A H pr σ ρ F) (mf : d0.mayLend = true) (pd : Rp B A H d0 v g) (sub0 : ∀ a ∈ F0, a ∈ F) (gF : ∀ a ∈ g, a ∈ F) (sep : ∀ a ∈ F0, a ∉ g) (st : Step (Less A g) F0 H A1 F1 H1) (e1 : Env B A1 H1 pr σ ρ1 F1) (hb : brxOk d0.insNs i ρ ρ1) :
    i < ρ1.length ∧ ∃ F2, Env B (fun a => A1 a ∨ a ∈ g) H1 pr σ (ρ1.set i none) F2 ∧ Step A F0 H (fun a => A1 a ∨ a ∈ g) F2 H1 ∧ (∀ x w h, D.noX d0.insNs x = true → Rp B A1 H1 x w h → Rp B (fun a => A1 a ∨ a ∈ g) H1 x w h) := by
  have hgl := Rp.ownK d0 v g mf pd
  have hgA := Rp.own d0 v g pd
  have gat : ∀ a ∈ g, H1 a = H a := fun a ha => by
    cases hx : H a with
    | none => exact absurd hx (hgA a ha).2
    | some u => exact st.keep.at_ a _ (fun z => sep a z ha) hx
  have A2e : ∀ a, (fun a => A1 a ∨ a ∈ g) a ↔ A1 a ∨ a ∈ g := fun _ => Iff.rfl
  have hgl1 : ∀ a ∈ g, OwnK d0.insNs (H1 a) := fun a ha => by rw [gat a ha]; exact hgl a ha
  have hN : ∀ d2 v g', d2.noX d0.insNs = true → Rp B A1 H1 d2 v g' → Rp B (fun a => A1 a ∨ a ∈ g) H1 d2 v g' := fun d2 v g' m p => Rp.againX hgl1 A2e d2 v g' m p
  have fa := en.fa
  have s0 : Stays A F0 H (fun a => A1 a ∨ a ∈ g) H1 := ⟨st.keep, fun a ha => fa a (sub0 a ha), fun a ha => by
    rcases ha with z | z
    · exact (st.ao a z).imp (fun q => q.1) id
    · exact .inl (hgA a z).1, fun a ha n => by
    by_cases z : a ∈ g
    · exact .inr z
    · exact .inl (st.ak a ⟨ha, z⟩ n)⟩
  have hS : ∀ d v, d.isFz = true → Rp B A H d v [] → Rp B (fun a => A1 a ∨ a ∈ g) H1 d v [] := fun d v _ p => Rp.stay s0 d v [] (by simp) p
  obtain ⟨hlen, f3, sub, r3⟩ := EnvR.brx hN hS i _ _ _ _ _ en.r e1.r hb
  have al2 : ∀ a, (A1 a ∨ a ∈ g) → H1 a ≠ none := fun a ha => by
    rcases ha with z | z
    · exact e1.al a z
    · rw [gat a z]; exact (hgA a z).2
  exact ⟨hlen, f3, ⟨r3, e1.nd.sublist sub, al2, e1.pr⟩, ⟨st.keep, fun a ha => st.fo a (sub.subset ha), s0.ao, s0.ak⟩, hN⟩
end
end DL
namespace DL
open PySem PySem.Spec PyProof.Rows L2 PB
def slN (ρ : Rho) (i : Nat) (k : Prop) : Prop := match ρ[i]? with
  | some none => k
  | _ => False
theorem slN_iff {ρ : Rho} {i : Nat} {k : Prop} : slN ρ i k ↔ ρ[i]? = some none ∧ k := by
  unfold slN
  cases h : ρ[i]? with
  | none => simp
  | some x => cases x <;> simp
def onLT (d : Option D) (k : List D → Prop) : Prop := match d with
  | some (.lst true ds) => k ds
  | _ => False
theorem onLT_e {ds : List D} {k : List D → Prop} : onLT (some (.lst true ds)) k = k ds := rfl
theorem onLT_iff {d : Option D} {k : List D → Prop} (h : onLT d k) : ∃ ds, d = some (.lst true ds) ∧ k ds := by
  unfold onLT at h
  split at h
  · exact ⟨_, rfl, h⟩
  · exact h.elim
def wLmP (i : Nat) (p : List Acc) (h : List D → List D → (List D → D → Prop) → Prop) (ws : List WD) : WD := fun ρ Q _ => sl ρ i fun d0 => onLT (getP p d0) fun ds => wL ws (ρ.set i none) (fun as ρ1 => cond (D.mayFreezeA as) (slN ρ1 i (h ds (D.freezeA as) fun ds' r => Q r (ρ1.set i (some (setP p d0 (.lst true ds')))))) False) fun _ _ => False
section
variable {B : Bs} {X : Cx} {pr : Nat → Option V} {W : WX} {o e : Expr} {es : List Expr} {pos apos cpos : Pos} {i : Nat} {p : List Acc} {wa : WD}
/-- one object is changed -/
theorem Step.obj {A : Addr → Prop} {H : Hp} {a : Addr} {g g' : List Addr} {u w : HO} (h : H a = some u) (n : ¬ Imm u) (ha : a ∈ g) (hg : ∀ b ∈ g', b ∈ g) : Step A g H A g' (upd H a w) := ⟨(Keep.set' (by simp) h n : Keep [a] H _).mono fun m hm => by simp at hm; subst hm; exact ha, fun b hb => .inl (hg b hb), fun b hb => .inl hb, fun b hb _ => hb⟩
theorem Stays.obj {A : Addr → Prop} {H : Hp} {a : Addr} {u w : HO} (h : H a = some u) (n : ¬ Imm u) (ha : A a) : Stays A [a] H A (upd H a w) := ⟨Keep.set' (by simp) h n, fun z hz => by simp at hz; subst hz; exact ha, fun z hz => .inl hz, fun z hz _ => hz⟩
theorem al_obj {A : Addr → Prop} {H : Hp} {a : Addr} {w : HO} (al : ∀ a, A a → H a ≠ none) : ∀ b, A b → upd H a w b ≠ none := fun b hb => by
  by_cases z : b = a
  · subst z; rw [upd_same]; simp
  · rw [upd_ne z]; exact al b hb
theorem lift_lmP {r : V → List V → Hp → VK → Prop} {h : List D → List D → (List D → D → Prop) → Prop} {ws : List WD} (hs : SimM B r h) (ok : PthOk B.K p) {σ : L2.St} {H : Hp} {Q : VK} (hh : liftE B pr W (wLmP i p h ws) σ H Q) : tBM B.K "list" r (tP B.K p (tVar i)) (tWs B pr W ws) σ H Q := by
  obtain ⟨A, F, ρ, Qd, Xd, en, hh, hq, hx⟩ := hh
  obtain ⟨d0, hi, hh⟩ := sl_iff.mp hh
  obtain ⟨ds, hp, hh⟩ := onLT_iff hh
  obtain ⟨u, g2, F0, rd, r2, e0, o1, o2, o3, n2, fin⟩ := en.place hi ok hp
  rw [Rp] at r2
  obtain ⟨a, vs, rfl, r2, q, qa, rfl⟩ := r2
  refine rd _ ⟨.inl ⟨rfl, vs, SqL.of q⟩, lift_ws ws e0 hh (fun _ _ z => z.elim) fun as ρ1 hd A0 F1 H0 xs f0 oo => ?_⟩
  cases m : D.mayFreezeA as with
  | false => rw [m] at hd; exact hd.elim
  | true =>
    rw [m] at hd
    have o4 := OutA.freeze e0 oo m
    obtain ⟨hi1, hd⟩ := slN_iff.mp hd
    obtain ⟨rr, gg, fin2⟩ := fin _ _ _ ρ1 o4.step o4.env hi1
    rw [Rp] at rr
    obtain ⟨a', vs', ea, r', q', qa', _⟩ := rr
    cases ea
    refine hs _ H0 a vs' ds _ xs Q _ o4.env.al q' r' o4.val hd fun ds' d hk vs'' v r'' rv => ?_
    have st := Stays.obj (w := .lst vs'') q' (fun z => z) qa'
    obtain ⟨F2, e2, s2, nd2, src2⟩ := fin2 [] _ (upd H0 a (.lst vs'')) (.lst true ds') [a] [] (by simp) (Step.obj q' (fun z => z) (by simp) (by simp)) (by rw [Rp]; exact ⟨a, vs'', rfl, RpA.stay st _ _ _ (by simp) r'', upd_same, qa', rfl⟩) (by simp) (al_obj o4.env.al) (by simp)
    exact hq _ _ hk _ F2 _ v [] ⟨s2, e2, Rp.stay st _ _ _ (by simp) rv, by simpa using e2.nd, by simp⟩
theorem de_lmP {id : String} {name : Str} {r : V → List V → Hp → VK → Prop} {h : List D → List D → (List D → D → Prop) → Prop} {ws : List WD} (hs : SimM B r h) (slot : Slot "list" name id) (hty : typeOf (.builtin id) = pure (.type "method_descriptor")) (hm : MtR X id r) (ok : PthOk B.K p) (ho : PE X o (tP B.K p (tVar i))) (ha : DWs B X pr W (e :: es) ws)
    (hbase : attributeBase o name X.env (eval o X.env) = eval o X.env := by rfl)
    (hfew : ((backTo cpos (starEach (e :: es) X.env)).all (fun x => !x.1) && (backToKw cpos (keywordEach [] X.env)).all (fun x => x.1.isSome)
      && decide ((e :: es).length + ([] : List Keyword).length + (if ([] : List Keyword).isEmpty then 0 else 1) < 30)) = true := by rfl)
    (hline : (apos.endLine == cpos.line) = true := by rfl) (hst : starEach (e :: es) X.env = (false, eval e X.env) :: starEach es X.env := by rfl) (hplain : (backTo cpos (starEach es X.env)).any (·.1) = false := by rfl) (hK : X.K = B.K := by rfl) :
    DE B X pr W (.Call (.Attribute o name apos) (e :: es) [] cpos) (wLmP i p h ws) := peW (pe_bmK PySem.F.plainAttrs_list slot hty hm ho ha hbase hfew hline hst hplain hK) fun _ _ _ hh => lift_lmP hs ok hh
theorem ppt_nil (h : PE X e (tVar i)) : PE X e (tP B.K [] (tVar i)) := h
theorem tP_app (K : PySem.W.Frag) : ∀ (p q : List Acc) (t : TE), tP K (p ++ q) t = tP K q (tP K p t)
  | [], q, t => rfl
  | a :: p, q, t => tP_app K p q (tAcc K a t)
theorem ppt_fld {cs : List Str} {f : Str} (h : PE X e (tP B.K p (tVar i))) (hK : X.K = B.K := by rfl) (hb : attributeBase e f X.env (eval e X.env) = eval e X.env := by rfl) : PE X (.Attribute e f pos) (tP B.K (p ++ [.f cs f]) (tVar i)) := by
  rw [tP_app]
  exact PB.pe_fldK h hb hK
end
end DL
namespace DL
open PySem PySem.Spec PyProof.Rows L2 PB
def onBP (d : Option D) (k : List D → Prop) : Prop := match d with
  | some d => onBoxE d k
  | none => False
theorem onBP_e {d : D} {k : List D → Prop} : onBP (some d) k = onBoxE d k := rfl
def wAppP (i : Nat) (p : List Acc) (ws : List WD) : WD := fun ρ Q _ => sl ρ i fun d0 => onBP (getP p d0) fun ds => wL ws (ρ.set i none) (fun as ρ1 => on1 as fun d => slN ρ1 i (ds.length < 1000000 ∧ Q .non (ρ1.set i (some (setP p d0 (.box (ds ++ [d]))))))) fun _ _ => False
/-- e[j] = d -/
def gPutR (e j d : D) (k : D → Prop) : Prop := match e with
  | .reco ns ds => (match j with
    | .str s => ns.contains s = true ∧ ns.length < 1000000 ∧ k (.reco ns (setN s d ns ds))
    | _ => False)
  | .lst true ds => onInt j fun j => onSome (ixN ds.length j) fun n => k (.lst true (ds.set n d))
  | .dic true ks ds => kFit ks j = true ∧ ks.length < 1000000 ∧ k (.dic true (putKs ks j) (putVs ks ds j d))
  | _ => False
def isR (e : D) (k : Prop) : Prop := match e with
  | .lst true _ => k
  | .dic true _ _ => k
  | .reco _ _ => k
  | _ => False
def gSetP (i : Nat) (p : List Acc) (w : WD) : WG := fun d ρ k => cond d.isFz (sl ρ i fun d0 => onSome (getP p d0) fun e => isR e (w (ρ.set i none) (fun j ρ1 => slN ρ1 i (gPutR e j d fun e' => k (ρ1.set i (some (setP p d0 e'))))) fun _ _ => False)) False
section
variable {B : Bs} {A A' : Addr → Prop} {H H' : Hp}
theorem strKeys : ∀ (kk : List Key) (ns : List Str), ns.map D.str = kk.map kD → kk = ns.map (Sum.inr : Str → Key)
  | [], [], _ => rfl
  | [], _ :: _, h => by cases h
  | _ :: _, [], h => by cases h
  | k :: kk, n :: ns, h => by
    rw [List.map_cons, List.map_cons, List.cons.injEq] at h
    obtain ⟨e2, e3⟩ := h
    cases k with
    | inl i => cases e2
    | inr s => cases e2; rw [strKeys kk ns e3]; rfl
theorem dicAt_reco {a : Addr} {ns : List Str} {vs : List V} (h : DicAt B H a (ns.map .str) vs) (nf : NoFz H a) (hn : ns ≠ []) : H a = some (.dK ((ns.map (Sum.inr : Str → Key)).zip vs)) := by
  rcases h with ⟨kk, e1, _, _, q⟩ | ⟨es, _, _, _, _, _, pk⟩
  · rw [← strKeys kk ns e1]
    exact Rd.nofz q nf
  · cases ns with
    | nil => exact absurd rfl hn
    | cons n ns =>
      rw [List.map_cons] at pk
      cases pk with
      | cons hd _ =>
        have h1 := hd.1
        rw [KeyR] at h1
        cases h1
theorem reco_dic {a : Addr} {ns : List Str} {vs : List V} (h : H a = some (.dK ((ns.map (Sum.inr : Str → Key)).zip vs))) (hl : ns.length = vs.length) (hn : ns.Nodup) : DicAt B H a (ns.map .str) vs ∧ NoFz H a := by
  refine ⟨.inl ⟨ns.map Sum.inr, by rw [List.map_map]; rfl, List.Pairwise.map _ (fun x y h z => h (Sum.inr.inj z)) hn, by rw [List.length_map]; exact hl, .inl h⟩, fun o u e => ?_⟩
  rw [h] at e
  cases e
theorem strAt (ns : List Str) (s : Str) : dAt (ns.map D.str) (.str s) = fI ns s := dAt_enc (enc := D.str) (fun a b h => by simp [D.ck] at h; exact h) ns s
theorem strFit (ns : List Str) (s : Str) : kFit (ns.map D.str) (.str s) = true := kFit_encI (enc := D.str) (fun _ => rfl) ns s
theorem setN_put {s : Str} {d : D} {v : V} (hv : Rp B A H d v []) : ∀ (ns : List Str) (ds : List D) (vs : List V) (g : List Addr) (j : Nat), ns.length = ds.length → fI ns s = some j → RpA B A H ds vs g → ∃ g', g'.Sublist g ∧ RpA B A H (setN s d ns ds) (vs.set j v) g'
  | [], _, _, _, _, _, h, _ => by cases h
  | n :: ns, [], _, _, _, hl, _, _ => by simp at hl
  | n :: ns, d0 :: ds, _, g, j, hl, h, r => by
    rw [RpA] at r
    obtain ⟨v0, vr, g1, g2, rfl, rfl, p, q⟩ := r
    by_cases hn : n = s
    · rw [fI_pos hn] at h
      cases h
      refine ⟨g2, List.sublist_append_right .., ?_⟩
      rw [setN, show (s == n) = true by rw [hn]; simp, cond_true, List.set_cons_zero, RpA]
      exact ⟨v, vr, [], g2, rfl, rfl, hv, q⟩
    · rw [fI_neg hn] at h
      obtain ⟨j', hj, rfl⟩ := Option.map_eq_some_iff.mp h
      obtain ⟨g', s1, q'⟩ := setN_put hv ns ds vr g2 j' (by simpa using hl) hj q
      refine ⟨g1 ++ g', List.Sublist.append_left s1 g1, ?_⟩
      rw [setN, show (s == n) = false by simpa using fun z : s = n => hn z.symm, cond_false, List.set_cons_succ, RpA]
      exact ⟨v0, _, g1, g', rfl, rfl, p, q'⟩
end
section
variable {B : Bs} {X : Cx} {pr : Nat → Option V} {W : WX} {o e tg : Expr} {es : List Expr} {pos apos cpos : Pos} {i : Nat} {p : List Acc} {wa : WD}
theorem dg_setP (ok : PthOk B.K p) (h : PG X tg (gSub (tP B.K p (tVar i)) (liftE B pr W0 wa) fun o i v H Q => rSetL o i v H Q ∨ rDSet B o i v H Q)) : DG B X pr [] tg (gSetP i p wa) := by
  refine pgW h fun v σ H Q ⟨A, F, ρ, d, f, Kd, en, r, nd, h, k⟩ => ?_
  unfold gSetP at h
  cases mz : d.isFz with
  | false => rw [mz] at h; exact h.elim
  | true =>
    rw [mz] at h
    have := Rp.fz _ _ _ mz r
    subst this
    obtain ⟨d0, hi, h⟩ := sl_iff.mp h
    obtain ⟨e, hp, h⟩ := onSome_iff.mp h
    obtain ⟨u, g2, F0, rd, r2, e0, o1, o2, o3, n2, fin⟩ := en.place hi ok hp
    have hw : wa (ρ.set i none) (fun j ρ1 => slN ρ1 i (gPutR e j d fun e' => Kd (ρ1.set i (some (setP p d0 e'))))) fun _ _ => False := by
      unfold isR at h
      split at h
      · exact h
      · exact h
      · exact h
      · exact h.elim
    refine rd _ ⟨A, F0, _, _, _, e0, hw, fun j ρ1 hd A1 F1 H1 y fj o4 => ?_, fun _ _ z => z.elim⟩
    obtain ⟨hi1, hd⟩ := slN_iff.mp hd
    obtain ⟨rr, gg, fin2⟩ := fin _ _ _ ρ1 o4.step o4.env hi1
    have sF : Step A F0 H A1 F1 H1 := o4.step
    have rv : Rp B A1 H1 d v [] := Rp.stay (sF.stays e0) d v [] (by simp) r
    have done : ∀ {a : Addr} {ob : HO} {e' : D} {g2' : List Addr} {w : HO}, H1 a = some w → ¬ Imm w → a ∈ g2 → (∀ b ∈ g2', b ∈ g2) → g2'.Nodup → Rp B A1 (upd H1 a ob) e' u g2' → Kd (ρ1.set i (some (setP p d0 e'))) → Q σ (upd H1 a ob) := fun ha ni m1 m2 nd' rp hk => by
      obtain ⟨F2, e2, s2, _, _⟩ := fin2 [] _ _ _ _ [] (by simp) (Step.obj ha ni (by simp [m1]) (fun b hb => by simp [m2 b hb])) rp (by simpa using nd') (al_obj o4.env.al) (by simp)
      exact k _ hk σ _ F2 _ (Agree.refl _ _) (by simpa using s2) e2
    cases e with
    | lst ow ds =>
      cases ow with
      | false => exact hd.elim
      | true =>
      have hd : onInt j fun j => onSome (ixN ds.length j) fun n => Kd (ρ1.set i (some (setP p d0 (.lst true (ds.set n d))))) := hd
      cases j <;> first | exact hd.elim | skip
      have hd := hd
      rw [Rp] at rr
      obtain ⟨a, vs, rfl, ra, q, qa, rfl⟩ := rr
      have oy := o4.val
      rw [Rp] at oy
      obtain ⟨rfl, rfl⟩ := oy
      have hl := RpA.len _ _ _ ra
      obtain ⟨n, hn, hd⟩ := onSome_iff.mp hd
      have st := Stays.obj (w := .lst (vs.set n v)) q (fun z => z) qa
      exact .inl ⟨a, vs, _, n, rfl, rfl, q, by rw [hl]; exact hn, done (g2' := [a]) q (fun z => z) (by simp) (by simp) (by simp) (by rw [Rp]; exact ⟨a, _, rfl, RpA.stay st _ _ _ (by simp) (RpA.setAt rv ds vs n ra), upd_same, qa, rfl⟩) hd⟩
    | dic ow ks ds =>
      cases ow with
      | false => exact hd.elim
      | true =>
      obtain ⟨hf, hz, hd⟩ := hd
      rw [Rp] at rr
      obtain ⟨a, vs, rfl, ra, q, qa, rfl, nf⟩ := rr
      have oy := o4.val
      have := Rp.fz _ _ _ (ck_fz _ (kFit_ck hf)) oy
      subst this
      refine .inr ⟨a, ks, vs, j, rfl, q, nf, Rp.key _ _ _ oy (kFit_ck hf), hf, hz, fun ob q2 nf2 => ?_⟩
      obtain ⟨_, ni⟩ := q.mut nf
      cases hw2 : H1 a with
      | none => exact absurd hw2 q.ne
      | some w =>
        have st := Stays.obj (w := ob) hw2 (ni w hw2) qa
        exact done (g2' := [a]) hw2 (ni w hw2) (by simp) (by simp) (by simp) (by rw [Rp]; exact ⟨a, _, rfl, RpA.stay st _ _ _ (by simp) (RpA.putVs ra rv), q2, qa, rfl, nf2⟩) hd
    | reco ns ds =>
      cases j with
      | str s =>
        obtain ⟨hc, hz, hd⟩ := hd
        rw [Rp] at rr
        obtain ⟨a, vs, g, rfl, ra, q, ql, qn, qa, rfl⟩ := rr
        have oy := o4.val
        have hvl := RpA.len _ _ _ ra
        obtain ⟨da, nf⟩ := reco_dic (B := B) q (by rw [ql, hvl]) qn
        have hm : s ∈ ns := by simpa using hc
        obtain ⟨jj, hj, _⟩ := fI_memX hm
        have oy' := o4.val
        rw [Rp] at oy'
        obtain ⟨rfl, rfl⟩ := oy'
        refine .inr ⟨a, ns.map .str, vs, .str s, rfl, da, nf, Rp.key _ _ _ oy rfl, strFit ns s, by rw [List.length_map]; exact hz, fun ob q2 nf2 => ?_⟩
        have ks0 : putKs (ns.map D.str) (.str s) = ns.map D.str := by unfold putKs; rw [strAt, hj]
        have vs0 : putVs (ns.map D.str) vs (.str s) v = vs.set jj v := by unfold putVs; rw [strAt, hj]
        rw [ks0, vs0] at q2
        have hne : ns ≠ [] := fun z => by subst z; simp at hm
        have q3 := dicAt_reco q2 nf2 hne
        have st := Stays.obj (w := ob) q (fun z => z) qa
        have nn := List.nodup_cons.mp n2
        obtain ⟨g', sb, r3⟩ := setN_put (Rp.stay st _ _ _ (by simp) rv) ns ds vs g jj ql hj (RpA.stay st _ _ _ (fun z hz => by simp; exact fun e => nn.1 (e ▸ hz)) ra)
        refine done (g2' := a :: g') q (fun z => z) (by simp) (fun b hb => ?_) (List.nodup_cons.mpr ⟨fun z => nn.1 (sb.subset z), nn.2.sublist sb⟩) (by rw [Rp]; exact ⟨a, _, g', rfl, r3, q3, by rw [setN_len]; exact ql, qn, qa, rfl⟩) hd
        rcases List.mem_cons.mp hb with z | z
        · simp [z]
        · simp [sb.subset z]
      | _ => exact hd.elim
    | _ => exact hd.elim
end
end DL
namespace DL
open PySem PySem.Spec PyProof.Rows L2 PB
def onInsT (cs : List Str) (d : Option D) (k : Str → List Str → List D → Prop) : Prop := match d with
  | some (.ins true c ns ds) => cs.contains c = true ∧ ns.length < 900 ∧ k c ns ds
  | _ => False
theorem onInsT_e {cs : List Str} {c : Str} {ns : List Str} {ds : List D} {k : Str → List Str → List D → Prop} : onInsT cs (some (.ins true c ns ds)) k = (cs.contains c = true ∧ ns.length < 900 ∧ k c ns ds) := rfl
theorem onInsT_iff {cs : List Str} {d : Option D} {k : Str → List Str → List D → Prop} (h : onInsT cs d k) : ∃ c ns ds, d = some (.ins true c ns ds) ∧ cs.contains c = true ∧ ns.length < 900 ∧ k c ns ds := by
  unfold onInsT at h
  split at h
  · exact ⟨_, _, _, rfl, h⟩
  · exact h.elim
/-- x.p.f = v -/
def sPutQ (cs : List Str) (f : Str) (i : Nat) (p : List Acc) (w : WD) : WS := fun E ρ => w ρ (fun d ρ1 => sl ρ1 i fun d0 => onInsT cs (getP p d0) fun c ns ds => E.nx (ρ1.set i (some (setP p d0 (.ins true c (putNs f ns) (putDs f d ns ds)))))) E.xx
/-- x.p.f += v, whole numbers; the slot lent for reading while v is found -/
def sAugQ (cs : List Str) (f : Str) (sg : Int → Int → Int) (i : Nat) (p : List Acc) (w : WD) : WS := fun E ρ => sl ρ i fun d0 => onInsT cs (getP p d0) fun c ns ds => onSome ((ns.zip ds).lookup f) fun x => onInt x fun a => wBrx i w ρ (fun y ρ1 => onInt y fun b => SmI a ∧ SmI b ∧ E.nx (ρ1.set i (some (setP p d0 (.ins true c ns (setN f (.int (sg a b)) ns ds)))))) fun _ _ => False
/-- f(x.p, ..) -/
def on1c (ds : List D) (k : D → Prop) : Prop := match ds with
  | d :: _ => k d
  | [] => False
theorem on1c_e {d : D} {ds : List D} {k : D → Prop} : on1c (d :: ds) k = k d := rfl
def wCallP (s : DSp) (dfl : List D) (i : Nat) (p : List Acc) (ws : List WD) : WD := fun ρ Q X => sl ρ i fun d0 => onSome (getP p d0) fun e => wL ws (ρ.set i none) (fun as ρ1 => cond (D.mayFreezeA as) (slN ρ1 i (s (e :: (D.freezeA as ++ dfl)) (fun r ds' => on1c ds' fun e' => Q r (ρ1.set i (some (setP p d0 e')))) fun x ds' => on1c ds' fun e' => X x (ρ1.set i (some (setP p d0 e'))))) False) fun _ _ => False
section
variable {B : Bs} {X : Cx} {pr : Nat → Option V} {W : WX} {o e tg value : Expr} {es : List Expr} {pos pos' apos cpos : Pos} {i : Nat} {p : List Acc} {wa : WD} {CX : CXT} {k : Nat} {x : Str} {ps : List Str} {dvs : List V} {dfl : List D} {s : DSp} {xp : Pos}
theorem ds_fldP {cs : List Str} {f : Str} (hf : FldOk X.K f cs) (ok : PthOk B.K p) (ho : PE X o (tP B.K p (tVar i))) (hv : DE B X pr W value wa) (hK : X.K = B.K := by rfl) (hs : swapsWith value (some (.Attribute o f pos')) pos.line X.env = pure false := by rfl) : DS B X pr W (.Assign [.Attribute o f pos'] value pos) (sPutQ cs f i p wa) := by
  refine psW (ps_fld ho hv hs) fun D σ H ⟨A, F, ρ, Ed, en, h, k⟩ => ⟨A, F, ρ, _, Ed.xx, en, h, fun d ρ1 hd A1 F1 H1 y fd oo => ?_, k.xx⟩
  obtain ⟨d0, hi, hd⟩ := sl_iff.mp hd
  obtain ⟨c, ns, ds, hp, hc, hl, hd⟩ := onInsT_iff hd
  obtain ⟨u, g2, F0, rd, r2, e0, o1, o2, o3, n2, fin⟩ := oo.env.place hi ok hp
  obtain ⟨rr, gg, fin2⟩ := fin _ _ _ _ (Step.refl A1 F0 H1) e0 (by rw [List.getElem?_set]; simp [(List.getElem?_eq_some_iff.mp hi).1])
  rw [Rp] at r2
  obtain ⟨a, dx, vs, g0, rfl, r, q0, ql, qa, rfl⟩ := r2
  obtain ⟨h1, h2⟩ := hf.at_ c hc
  have n0 := List.nodup_append.mp oo.nd
  have n3 := List.nodup_cons.mp n2
  obtain ⟨g', vs', e1, r1, l1, s1, nd1⟩ := put_rp (f := f) oo.val ns ds vs g0 ql r
  have fdF : ∀ z ∈ fd, z ∉ F1 := fun z hz w => n0.2.2 z hz z w rfl
  have hfa : ∀ z ∈ fd, z ≠ a := fun z hz e => fdF z hz (o3 z (by simp [e]))
  have hg0 : ∀ z ∈ g0, z ≠ a := fun z hz e => by subst e; exact n3.1 hz
  have hlen : (ns.zip vs).length < 1000 := by rw [List.length_zip]; omega
  refine rd _ ⟨a, _, dx, _, rfl, q0, by rw [← hK]; exact h1, by rw [← hK]; exact h2, hlen, ?_⟩
  rw [e1]
  have st := Stays.obj (w := .ins (He.ga B.K c) dx ((putNs f ns).zip vs')) q0 (fun z => z) qa
  have r1' := RpA.stay st _ _ _ (fun z hz => by simp; rcases s1 z hz with w | w; exact hg0 z w; exact hfa z w) r1
  have ng' : (a :: g').Nodup := List.nodup_cons.mpr ⟨fun z => (s1 a z).elim n3.1 fun w => hfa a w rfl, nd1 (List.nodup_append.mpr ⟨n0.1, n3.2, fun x hx y hy z => fdF x hx (o3 x (by rw [z]; simp [hy]))⟩)⟩
  have foA : ∀ b ∈ fd, A1 b := fun b hb => (Rp.own _ _ _ oo.val b hb).1
  obtain ⟨F2, e2, s2, _, _⟩ := fin2 fd A1 (upd H1 a (.ins (He.ga B.K c) dx ((putNs f ns).zip vs'))) (.ins true c (putNs f ns) (putDs f d ns ds)) (a :: g') [] (fun b hb => ⟨foA b hb, fun z => fdF b hb (o2 b z), fun z => fdF b hb (o3 b z), .inr (.inr (fdF b hb))⟩) (Step.obj q0 (fun z => z) (by simp) (fun b hb => by
    rcases List.mem_cons.mp hb with z | z
    · simp [z]
    · rcases s1 b z with w | w <;> simp [w])) (by rw [Rp]; exact ⟨a, dx, vs', g', rfl, r1', upd_same, l1, qa, rfl⟩) (by simpa using ng') (al_obj oo.env.al) (by simp)
  rw [List.set_set] at e2
  have e' : Step A F H A1 (fd ++ F1) H1 := ⟨oo.step.keep, fun a ha => (List.mem_append.mp ha).elim (oo.src a) (oo.step.fo a), oo.step.ao, oo.step.ak⟩
  exact k.nx _ hd σ A1 F2 _ (e'.trans en.al en.fa s2) e2
end
end DL
namespace DL
open PySem PySem.Spec PyProof.Rows L2 PB
def isVal (u : V) (d : Option D) (k : Prop) : Prop := match d with
  | some (.val w) => w = u ∧ k
  | _ => False
theorem isVal_e {u w : V} {k : Prop} : isVal u (some (.val w)) k = (w = u ∧ k) := rfl
/-- the thing back at its place -/
def backP (i : Nat) (p : List Acc) (u : V) (e : D) (k : Rho → Prop) : Rho → Prop := fun ρ => sl ρ i fun d => isVal u (getP p d) (k (ρ.set i (some (setP p d e))))
/-- for tg in x.p: an own list whose items own nothing -/
def sForH (i : Nat) (p : List Acc) (g : WG) (body : WS) : WS := fun E ρ => sl ρ i fun d0 => onLT (getP p d0) fun ds => ∀ u, ForG ds g body { E with nx := backP i p u (.lst true ds) E.nx, bk := fun _ => False, ct := fun _ => False } (ρ.set i (some (setP p d0 (.val u))))
def onBxP (d : Option D) (k : List D → Prop) : Prop := match d with
  | some (.box ds) => k ds
  | some (.lst true []) => k []
  | _ => False
theorem onBxP_b {ds : List D} {k : List D → Prop} : onBxP (some (.box ds)) k = k ds := rfl
theorem onBxP_n {k : List D → Prop} : onBxP (some (.lst true [])) k = k [] := rfl
/-- what the body of a loop over own items is to leave -/
def bpBack (r k : Nat) (ds : List D) (Iv : Nat → List D → Rho → Prop) : Rho → Prop := fun ρ2 => sl ρ2 r fun d2 => Iv (k + 1) (ds.set k d2) (ρ2.set r none)
/-- for y in x.p: a box whose items go over into y's slot -/
def sForBP (i : Nat) (p : List Acc) (r : Nat) (body : WS) : WS := fun E ρ => sl ρ i fun d0 => onBxP (getP p d0) fun ds0 => ∀ u, ∃ Iv : Nat → List D → Rho → Prop, Iv 0 ds0 (ρ.set i (some (setP p d0 (.val u)))) ∧
  ∀ k ds ρ', Iv k ds ρ' → ds.length = ds0.length → r < ρ'.length ∧ (ds.length ≤ k → backP i p u (.box ds) E.nx ρ') ∧ ∀ d, ds[k]? = some d → body { E with nx := bpBack r k ds Iv, ct := bpBack r k ds Iv, bk := fun _ => False } (ρ'.set r (some d))
/-- for a, b in x.p: a box whose items are own lists that are read alone -/
def onL1 (d : D) (n : Nat) (k : List D → Prop) : Prop := match d with
  | .lst true ds => ds.length = n ∧ k ds
  | _ => False
theorem onL1_e {ds : List D} {n : Nat} {k : List D → Prop} : onL1 (.lst true ds) n k = (ds.length = n ∧ k ds) := rfl
def sForBU (i : Nat) (p : List Acc) (n : Nat) (gs : WGs) (body : WS) : WS := fun E ρ => sl ρ i fun d0 => onBxP (getP p d0) fun ds => ∀ u, ForG ds (fun d ρ k => onL1 d n fun xs => gs xs ρ k) body { E with nx := backP i p u (.box ds) E.nx, bk := fun _ => False, ct := fun _ => False } (ρ.set i (some (setP p d0 (.val u))))
end DL
namespace DL
open PySem PySem.Spec PyProof.Rows L2 PB
end DL
namespace DL
open PySem PySem.Spec PyProof.Rows L2 PB
/-- slot i: x[a:] = a list of its own -/
def onLs (d : D) (k : List D → Prop) : Prop := match d with
  | .lst true ds => k ds
  | _ => False
theorem onLs_e {ds : List D} {k : List D → Prop} : onLs (.lst true ds) k = k ds := rfl
def gSlTo (i a : Nat) : WG := fun d ρ k => onLs d fun es => sl ρ i fun l => onLs l fun ds => a ≤ ds.length ∧ ds.length + es.length ≤ 1000000 ∧ k (ρ.set i (some (.lst true (ds.take a ++ es))))
end DL
namespace DL
open PySem PySem.Spec PyProof.Rows L2 PB
def wPk (i : Nat) (p : List Acc) : WD := fun ρ Q _ => sl ρ i fun d0 => onSome (getP p d0) fun e => cond e.isFz (Q e ρ) False
theorem wPk_e {i : Nat} {p : List Acc} {ρ : Rho} {Q : QD} {X : XD} : wPk i p ρ Q X = sl ρ i fun d0 => onSome (getP p d0) fun e => cond e.isFz (Q e ρ) False := rfl
/-- x.f, a property -/
def isI (c : Str) (d : D) : Prop := match d with
  | .ins _ c' _ _ => c' = c
  | _ => False
theorem isI_e {o : Bool} {c c' : Str} {ns : List Str} {ds : List D} : isI c (.ins o c' ns ds) = (c' = c) := rfl
def wProp (c : Str) (s : DSp) : Opd → WD
  | .w w => fun ρ Q X => w ρ (fun d ρ1 => isI c d ∧ cond d.mayFreeze (callK s [] [.z d.freeze] ρ1 Q fun _ _ => False) False) X
  | .v i => fun ρ Q _ => (sl ρ i fun d => isI c d) ∧ callK s [] [.s i] ρ Q fun _ _ => False
section
variable {B : Bs} {X : Cx} {pr : Nat → Option V} {W : WX} {e : Expr} {pos : Pos} {i : Nat} {p : List Acc} {k : Nat} {c f : Str} {ps : List Str} {s : DSp} {w : WD}
theorem de_pk (ok : PthOk B.K p) (ho : PE X e (tP B.K p (tVar i))) : DE B X pr W e (wPk i p) := by
  refine peW ho fun σ H Q ⟨A, F, ρ, Qd, Xd, en, h, hq, hx⟩ => ?_
  obtain ⟨d0, hi, h⟩ := sl_iff.mp h
  obtain ⟨x, hp, h⟩ := onSome_iff.mp h
  cases m : x.isFz with
  | false => rw [m] at h; exact h.elim
  | true =>
    rw [m] at h
    obtain ⟨u, g2, F0, rd, r2, _⟩ := en.place hi ok hp
    have := Rp.fz _ _ _ m r2
    subst this
    exact rd _ (hq _ _ h A F H u [] ⟨Step.refl A F H, en, r2, by simpa using en.nd, by simp⟩)
theorem isI_pk {A : Addr → Prop} {H : Hp} {d : D} {v : V} (h : isI c d) (p : Pk B A H d v) : ∃ a dx fs, v = .ref a ∧ H a = some (.ins (He.ga B.K c) dx fs) := by
  cases d <;> first | exact h.elim | skip
  obtain ⟨a, dx, vs, g, rfl, q, _⟩ := p
  rw [show _ = c from h] at q
  exact ⟨a, dx, _, rfl, q⟩
theorem de_prop {o : Opd} (O : OkP X.prog X.w X.K X.mg X.base CX0 k c f ps [] (spOf B s)) (hr : Room (k + 1) X.A) (he : DO B X pr W e o) (hK : X.K = B.K := by rfl) (hab : attributeBase e f X.env (eval e X.env) = eval e X.env := by rfl) : DE B X pr W (.Attribute e f pos) (wProp c s o) := by
  refine peW (pe_propF O hr he hab) fun σ H Q hh => ?_
  rw [hK]
  cases o with
  | v i =>
    obtain ⟨A, F, ρ, Qd, Xd, en, ⟨hc, h⟩, hq, hx⟩ := hh
    obtain ⟨d, hi, hc⟩ := sl_iff.mp hc
    obtain ⟨v, g0, ev, pv⟩ := en.at_ hi
    obtain ⟨a, dx, fs, rfl, q⟩ := isI_pk hc pv.pk
    refine ⟨.ref a, ev, a, dx, fs, rfl, q, ?_⟩
    have := lift_call (as := [.s i]) (dfl := []) (dvs := []) (vs := [.ref a]) (W := fun _ _ _ _ => False) (Xd := fun _ _ => False) (fun _ _ => by rw [RpA]; exact ⟨rfl, rfl⟩) en ⟨.ref a, [], rfl, ev, rfl⟩ h hq fun _ _ z => z.elim
    exact this
  | w wa =>
    obtain ⟨A, F, ρ, Qd, Xd, en, h, hq, hx⟩ := hh
    refine ⟨A, F, ρ, _, Xd, en, h, fun d ρ1 hd A1 F1 H1 v f o => ?_, hx⟩
    obtain ⟨hc, hd⟩ := hd
    cases m : d.mayFreeze with
    | false => rw [m] at hd; exact hd.elim
    | true =>
      rw [m] at hd
      obtain ⟨a, dx, fs, rfl, q⟩ := isI_pk hc o.val.pk
      have o2 := Out.freeze en o m
      refine ⟨a, dx, fs, rfl, q, ?_⟩
      exact lift_call (as := [.z d.freeze]) (dfl := []) (dvs := []) (vs := [.ref a]) (W := fun _ _ _ _ => False) (Xd := fun _ _ => False) (fun _ _ => by rw [RpA]; exact ⟨rfl, rfl⟩) o2.env ⟨.ref a, [], rfl, o2.val, rfl⟩ hd (fun d ρ2 hd2 A2 F2 H2 v f o3 => hq d ρ2 hd2 A2 F2 H2 v f (Out.seq en o2.step o3)) fun _ _ z => z.elim
end
end DL
namespace DL
open PySem PySem.Spec PyProof.Rows L2 PB
def onReco (ns : List Str) (ds : List D) (k : D → Prop) : Prop := ds.length = 2 * ns.length ∧ (evs ds = ns.map .str ∧ (ns ≠ [] ∧ (ns.Nodup ∧ (fitNew [] (evs ds) = true ∧ k (.reco ns (ods ds))))))
theorem onReco_e {ns : List Str} {ds : List D} {k : D → Prop} : onReco ns ds k = (ds.length = 2 * ns.length ∧ (evs ds = ns.map .str ∧ (ns ≠ [] ∧ (ns.Nodup ∧ (fitNew [] (evs ds) = true ∧ k (.reco ns (ods ds))))))) := rfl
def wRecoN (ns : List Str) (ws : List WD) : WD := fun ρ Q Xd => wL ws ρ (fun ds ρ1 => onReco ns ds fun r => Q r ρ1) Xd
theorem wRecoN_e {ns : List Str} {ws : List WD} {ρ : Rho} {Q : QD} {Xd : XD} : wRecoN ns ws ρ Q Xd = wL ws ρ (fun ds ρ1 => onReco ns ds fun r => Q r ρ1) Xd := rfl
section
variable {ρ : Rho} {Q : QD} {X : XD} {i : Nat} {p : List Acc} {w : WD} {ws : List WD} {E : DEnds} {d e : D} {k : D → Prop} {kρ : Rho → Prop} {g : WG} {s : WS} {r : Nat}
theorem slN_0 {P : Prop} : slN (none :: ρ) 0 P = P := rfl
theorem frz_v {u : V} : D.freeze (.val u) = .val u := rfl
theorem setP_n {x : D} : setP [] d x = x := rfl
theorem brxOk_0 {nss : List (List Str)} {x y : Option D} {ρ' : Rho} : brxOk nss 0 (x :: ρ) (y :: ρ') = brxAll nss ρ ρ' := rfl
theorem brxOk_s {nss : List (List Str)} {x y : Option D} {ρ' : Rho} {n : Nat} : brxOk nss (n + 1) (x :: ρ) (y :: ρ') = (okX nss x y ∧ brxOk nss n ρ ρ') := rfl
theorem brxAll_n {nss : List (List Str)} : brxAll nss [] [] = True := rfl
theorem brxAll_c {nss : List (List Str)} {x y : Option D} {ρ' : Rho} : brxAll nss (x :: ρ) (y :: ρ') = (okX nss x y ∧ brxAll nss ρ ρ') := rfl
theorem okX_n {nss : List (List Str)} {x : Option D} : okX nss x none = True := rfl
theorem okX_e {nss : List (List Str)} {x : Option D} : okX nss x (some d) = (d.noX nss = true ∨ (x = some d ∧ d.isFz = true)) := rfl
theorem nX_i {nss : List (List Str)} {z : Int} : D.noX nss (.int z) = true := rfl
theorem nX_b {nss : List (List Str)} {z : Bool} : D.noX nss (.bl z) = true := rfl
theorem nX_s {nss : List (List Str)} {z : Str} : D.noX nss (.str z) = true := rfl
theorem nX_n {nss : List (List Str)} : D.noX nss .non = true := rfl
theorem nX_v {nss : List (List Str)} {z : V} : D.noX nss (.val z) = true := rfl
theorem nX_t {nss : List (List Str)} {ds : List D} : D.noX nss (.tup ds) = D.noXA nss ds := rfl
theorem nX_l {nss : List (List Str)} {ds : List D} : D.noX nss (.lst true ds) = D.noXA nss ds := rfl
theorem nX_bx {nss : List (List Str)} {ds : List D} : D.noX nss (.box ds) = D.noXA nss ds := rfl
theorem nX_z {nss : List (List Str)} {n : Nat} : D.noX nss (.spring n) = true := rfl
theorem nXA_n {nss : List (List Str)} : D.noXA nss [] = true := rfl
theorem nXA_c {nss : List (List Str)} {ds : List D} : D.noXA nss (d :: ds) = (D.noX nss d && D.noXA nss ds) := rfl
theorem nXA_map {α : Type} {nss : List (List Str)} {f : α → D} (h : ∀ a, (f a).noX nss = true) : ∀ xs : List α, D.noXA nss (xs.map f) = true
  | [] => rfl
  | x :: xs => by rw [List.map_cons, nXA_c, h, nXA_map h xs]; rfl
theorem nX_ints {nss : List (List Str)} (xs : List Int) : D.noXA nss (xs.map .int) = true := nXA_map (fun _ => rfl) xs
theorem nX_strs {nss : List (List Str)} (xs : List Str) : D.noXA nss (xs.map .str) = true := nXA_map (fun _ => rfl) xs
theorem slN_s {x : Option D} {P : Prop} {n : Nat} : slN (x :: ρ) (n + 1) P = slN ρ n P := by unfold slN; rw [List.getElem?_cons_succ]
theorem getP_n : getP [] d = some d := rfl
theorem wLmP_e {h : List D → List D → (List D → D → Prop) → Prop} : wLmP i p h ws ρ Q X = sl ρ i fun d0 => onLT (getP p d0) fun ds => wL ws (ρ.set i none) (fun as ρ1 => cond (D.mayFreezeA as) (slN ρ1 i (h ds (D.freezeA as) fun ds' r => Q r (ρ1.set i (some (setP p d0 (.lst true ds')))))) False) fun _ _ => False := rfl
theorem wAppP_e : wAppP i p ws ρ Q X = sl ρ i fun d0 => onBP (getP p d0) fun ds => wL ws (ρ.set i none) (fun as ρ1 => on1 as fun d => slN ρ1 i (ds.length < 1000000 ∧ Q .non (ρ1.set i (some (setP p d0 (.box (ds ++ [d]))))))) fun _ _ => False := rfl
theorem gSetP_e : gSetP i p w d ρ kρ = cond d.isFz (sl ρ i fun d0 => onSome (getP p d0) fun e => isR e (w (ρ.set i none) (fun j ρ1 => slN ρ1 i (gPutR e j d fun e' => kρ (ρ1.set i (some (setP p d0 e'))))) fun _ _ => False)) False := rfl
theorem isR_l {ds : List D} {P : Prop} : isR (.lst true ds) P = P := rfl
theorem isR_d {ks ds : List D} {P : Prop} : isR (.dic true ks ds) P = P := rfl
theorem isR_r {ns : List Str} {ds : List D} {P : Prop} : isR (.reco ns ds) P = P := rfl
theorem gPutR_l {ds : List D} {j : D} : gPutR (.lst true ds) j d k = (onInt j fun j => onSome (ixN ds.length j) fun n => k (.lst true (ds.set n d))) := rfl
theorem gPutR_d {ks ds : List D} {j : D} : gPutR (.dic true ks ds) j d k = (kFit ks j = true ∧ ks.length < 1000000 ∧ k (.dic true (putKs ks j) (putVs ks ds j d))) := rfl
theorem gPutR_r {ns : List Str} {ds : List D} {s : Str} : gPutR (.reco ns ds) (.str s) d k = (ns.contains s = true ∧ ns.length < 1000000 ∧ k (.reco ns (setN s d ns ds))) := rfl
theorem sPutQ_e {cs : List Str} {f : Str} : sPutQ cs f i p w E ρ = w ρ (fun d ρ1 => sl ρ1 i fun d0 => onInsT cs (getP p d0) fun c ns ds => E.nx (ρ1.set i (some (setP p d0 (.ins true c (putNs f ns) (putDs f d ns ds)))))) E.xx := rfl
theorem sAugQ_e {cs : List Str} {f : Str} {sg : Int → Int → Int} : sAugQ cs f sg i p w E ρ = sl ρ i fun d0 => onInsT cs (getP p d0) fun c ns ds => onSome ((ns.zip ds).lookup f) fun x => onInt x fun a => wBrx i w ρ (fun y ρ1 => onInt y fun b => SmI a ∧ SmI b ∧ E.nx (ρ1.set i (some (setP p d0 (.ins true c ns (setN f (.int (sg a b)) ns ds)))))) fun _ _ => False := rfl
theorem wCallP_e {s : DSp} {dfl : List D} : wCallP s dfl i p ws ρ Q X = sl ρ i fun d0 => onSome (getP p d0) fun e => wL ws (ρ.set i none) (fun as ρ1 => cond (D.mayFreezeA as) (slN ρ1 i (s (e :: (D.freezeA as ++ dfl)) (fun r ds' => on1c ds' fun e' => Q r (ρ1.set i (some (setP p d0 e')))) fun x ds' => on1c ds' fun e' => X x (ρ1.set i (some (setP p d0 e'))))) False) fun _ _ => False := rfl
theorem sForH_e : sForH i p g s E ρ = sl ρ i fun d0 => onLT (getP p d0) fun ds => ∀ u, ForG ds g s { E with nx := backP i p u (.lst true ds) E.nx, bk := fun _ => False, ct := fun _ => False } (ρ.set i (some (setP p d0 (.val u)))) := rfl
theorem sForBP_e : sForBP i p r s E ρ = sl ρ i fun d0 => onBxP (getP p d0) fun ds0 => ∀ u, ∃ Iv : Nat → List D → Rho → Prop, Iv 0 ds0 (ρ.set i (some (setP p d0 (.val u)))) ∧ ∀ k ds ρ', Iv k ds ρ' → ds.length = ds0.length → r < ρ'.length ∧ (ds.length ≤ k → backP i p u (.box ds) E.nx ρ') ∧ ∀ d, ds[k]? = some d → s { E with nx := bpBack r k ds Iv, ct := bpBack r k ds Iv, bk := fun _ => False } (ρ'.set r (some d)) := rfl
theorem sForBU_e {n : Nat} {gs : WGs} : sForBU i p n gs s E ρ = sl ρ i fun d0 => onBxP (getP p d0) fun ds => ∀ u, ForG ds (fun d ρ k => onL1 d n fun xs => gs xs ρ k) s { E with nx := backP i p u (.box ds) E.nx, bk := fun _ => False, ct := fun _ => False } (ρ.set i (some (setP p d0 (.val u)))) := rfl
theorem backP_e {u : V} : backP i p u e kρ ρ = sl ρ i fun d => isVal u (getP p d) (kρ (ρ.set i (some (setP p d e)))) := rfl
theorem bpBack_e {kk : Nat} {ds : List D} {Iv : Nat → List D → Rho → Prop} : bpBack r kk ds Iv ρ = sl ρ r fun d2 => Iv (kk + 1) (ds.set kk d2) (ρ.set r none) := rfl
theorem gSlTo_e {a : Nat} : gSlTo i a d ρ kρ = onLs d fun es => sl ρ i fun l => onLs l fun ds => a ≤ ds.length ∧ ds.length + es.length ≤ 1000000 ∧ kρ (ρ.set i (some (.lst true (ds.take a ++ es)))) := rfl
theorem wProp_w {c : Str} {s : DSp} : wProp c s (.w w) ρ Q X = w ρ (fun d ρ1 => isI c d ∧ cond d.mayFreeze (callK s [] [.z d.freeze] ρ1 Q fun _ _ => False) False) X := rfl
theorem wProp_v {c : Str} {s : DSp} : wProp c s (.v i) ρ Q X = ((sl ρ i fun d => isI c d) ∧ callK s [] [.s i] ρ Q fun _ _ => False) := rfl
end
end DL
namespace DL
open PySem PySem.Spec PyProof.Rows L2 PB
def wRev (i : Nat) : WD := fun ρ Q _ => sl ρ i fun d => onLs d fun ds => Q .non (ρ.set i (some (.lst true ds.reverse)))
theorem wRev_e {i : Nat} {ρ : Rho} {Q : QD} {Xd : XD} : wRev i ρ Q Xd = sl ρ i fun d => onLs d fun ds => Q .non (ρ.set i (some (.lst true ds.reverse))) := rfl
def wRevT (w : WD) : WD := fun ρ Q Xd => w ρ (fun d ρ1 => onLs d fun _ => Q .non ρ1) Xd
theorem wRevT_e {w : WD} {ρ : Rho} {Q : QD} {Xd : XD} : wRevT w ρ Q Xd = w ρ (fun d ρ1 => onLs d fun _ => Q .non ρ1) Xd := rfl
/-- nothing is told of the items any more -/
def wForget (w : WD) : WD := fun ρ Q Xd => w ρ (fun d ρ1 => onLs d fun ds => ∀ us : List V, us.length = ds.length → Q (.lst true (us.map .val)) ρ1) Xd
theorem wForget_e {w : WD} {ρ : Rho} {Q : QD} {Xd : XD} : wForget w ρ Q Xd = w ρ (fun d ρ1 => onLs d fun ds => ∀ us : List V, us.length = ds.length → Q (.lst true (us.map .val)) ρ1) Xd := rfl
end DL
namespace DL
open PySem PySem.Spec PyProof.Rows L2 PB
def onDT (d : Option D) (k : List D → List D → Prop) : Prop := match d with
  | some (.dic true ks ds) => k ks ds
  | _ => False
theorem onDT_e {ks ds : List D} {k : List D → List D → Prop} : onDT (some (.dic true ks ds)) k = k ks ds := rfl
abbrev WDl := Rho → (Rho → Prop) → Prop
def wDelP (i : Nat) (p : List Acc) (w : WD) : WDl := fun ρ Kd => sl ρ i fun d0 => onDT (getP p d0) fun ks ds => w (ρ.set i none) (fun k ρ1 => onStr k fun s => slN ρ1 i (∃ (ns : List Str) (j : Nat), ks = ns.map .str ∧ fI ns s = some j ∧ Kd (ρ1.set i (some (setP p d0 (.dic true ((ns.eraseIdx j).map .str) (ds.eraseIdx j))))))) fun _ _ => False
theorem wDelP_e {i : Nat} {p : List Acc} {w : WD} {ρ : Rho} {Kd : Rho → Prop} : wDelP i p w ρ Kd = sl ρ i fun d0 => onDT (getP p d0) fun ks ds => w (ρ.set i none) (fun k ρ1 => onStr k fun s => slN ρ1 i (∃ (ns : List Str) (j : Nat), ks = ns.map .str ∧ fI ns s = some j ∧ Kd (ρ1.set i (some (setP p d0 (.dic true ((ns.eraseIdx j).map .str) (ds.eraseIdx j))))))) fun _ _ => False := rfl
abbrev TDl := L2.St → Hp → (Hp → Prop) → Prop
structure PDl (X : Cx) (e : Expr) (t : TDl) : Prop where
  run : ∀ (pins : List (Addr × Obj)) (s : Shared) (σ : L2.St) (H : Hp) (Q : Hp → Prop), L2.Inv X pins σ H s → t σ H Q → wpAny (model X.prog X.w) X.A (delete e X.env) (fun _ s' => ∃ H', L2.Inv X pins σ H' s' ∧ Q H') X.xe s
structure PDls (X : Cx) (es : List Expr) (t : TDl) : Prop where
  run : ∀ (pins : List (Addr × Obj)) (s : Shared) (σ : L2.St) (H : Hp) (Q : Hp → Prop), L2.Inv X pins σ H s → t σ H Q → wpAny (model X.prog X.w) X.A (deleteEach es X.env) (fun _ s' => ∃ H', L2.Inv X pins σ H' s' ∧ Q H') X.xe s
theorem pdls_nil {X : Cx} : PDls X [] (fun _ H Q => Q H) := ⟨fun _ _ _ H _ I h => wpAny_deleteEach_nil ⟨H, I, h⟩⟩
theorem pdls_cons {X : Cx} {e : Expr} {es : List Expr} {t ts : TDl} (h : PDl X e t) (hs : PDls X es ts) : PDls X (e :: es) (fun σ H Q => t σ H fun H1 => ts σ H1 Q) :=
  ⟨fun pins s σ H Q I q => wpAny_deleteEach_cons (wpAny_mono (h.run pins s σ H _ I q) (fun _ s1 ⟨H1, I1, q1⟩ => hs.run pins s1 σ H1 Q I1 q1) fun _ _ z => z)⟩
theorem ps_dels {X : Cx} {es : List Expr} {t : TDl} {pos : Pos} (h : PDls X es t) : PS X (.Delete es pos) (fun D σ H => t σ H fun H1 => D.nx σ H1) :=
  ⟨fun pins s σ H D I q => wpAny_Delete (wpAny_mono (h.run pins s σ H _ I q) (fun _ s1 ⟨H1, I1, q1⟩ => ⟨σ, H1, I1, q1⟩) fun _ _ z => z)⟩
def liftDl (B : Bs) (pr : Nat → Option V) (w : WDl) : TDl := fun σ H Q => ∃ A F ρ Kd, Env B A H pr σ ρ F ∧ w ρ Kd ∧ ∀ ρ', Kd ρ' → ∀ A' F' H', Step A F H A' F' H' → Env B A' H' pr σ ρ' F' → Q H'
def DDl (B : Bs) (X : Cx) (pr : Nat → Option V) (e : Expr) (w : WDl) : Prop := PDl X e (liftDl B pr w)
def DDls (B : Bs) (X : Cx) (pr : Nat → Option V) (es : List Expr) (w : WDl) : Prop := PDls X es (liftDl B pr w)
theorem pdlW {X : Cx} {e : Expr} {t t' : TDl} (h : PDl X e t) (m : ∀ σ H Q, t' σ H Q → t σ H Q) : PDl X e t' := ⟨fun pins s σ H Q I q => h.run pins s σ H Q I (m σ H Q q)⟩
theorem pdlsW {X : Cx} {e : List Expr} {t t' : TDl} (h : PDls X e t) (m : ∀ σ H Q, t' σ H Q → t σ H Q) : PDls X e t' := ⟨fun pins s σ H Q I q => h.run pins s σ H Q I (m σ H Q q)⟩
section
variable {B : Bs} {X : Cx} {pr : Nat → Option V} {W : WX}
theorem ddls_nil : DDls B X pr [] (fun ρ Kd => Kd ρ) := pdlsW pdls_nil fun σ H Q ⟨A, F, ρ, Kd, e, h, k⟩ => k ρ h A F H (Step.refl A F H) e
theorem ddls_cons {e : Expr} {es : List Expr} {w ws : WDl} (h : DDl B X pr e w) (hs : DDls B X pr es ws) : DDls B X pr (e :: es) (fun ρ Kd => w ρ fun ρ1 => ws ρ1 Kd) :=
  pdlsW (pdls_cons h hs) fun σ H Q ⟨A, F, ρ, Kd, e, h, k⟩ => ⟨A, F, ρ, _, e, h, fun ρ1 h1 A1 F1 H1 t1 e1 => ⟨A1, F1, ρ1, Kd, e1, h1, fun ρ' hk A' F' H' t' e' => k ρ' hk A' F' H' (t1.trans e.al e.fa t') e'⟩⟩
theorem ds_del {es : List Expr} {w : WDl} {pos : Pos} (h : DDls B X pr es w) : DS B X pr W (.Delete es pos) (fun E ρ => w ρ E.nx) :=
  psW (ps_dels h) fun D σ H ⟨A, F, ρ, Ed, en, hh, k⟩ => ⟨A, F, ρ, _, en, hh, fun ρ' hk A' F' H' t e' => k.nx ρ' hk σ A' F' H' t e'⟩
end
end DL
namespace DL
open PySem PySem.Spec PyProof.Rows L2 PB
def DcG (items : List D) (g : WG) (t : WT) (wk wv : WD) (vs : List Nat) (ρ1 : Rho) (Q : QD) : Prop := ∃ Iv : Nat → List D → List D → Rho → Prop, Iv 0 [] [] (wipeD ρ1 vs) ∧
  (∀ k d ks ds ρ', items[k]? = some d → Iv k ks ds ρ' → g d ρ' fun ρ2 => t ρ2 (fun b ρ3 => if b = true then wk ρ3 (fun kd ρ4 => kFit ks kd = true ∧ ks.length < 1000000 ∧ wv ρ4 (fun vd ρ5 => cond vd.mayFreeze (Iv (k + 1) (putKs ks kd) (putVs ks ds kd vd.freeze) (wipeD ρ5 vs)) False) fun _ _ => False) (fun _ _ => False) else Iv (k + 1) ks ds (wipeD ρ3 vs)) fun _ _ => False) ∧
  ∀ ks ds ρ', Iv items.length ks ds ρ' → Q (.dic true ks ds) (wipeD ρ' vs)
def wDc (wi : WI) (g : WG) (t : WT) (wk wv : WD) (vs : List Nat) : WD := fun ρ Q X => wi ρ (fun items ρ1 => DcG items g t wk wv vs ρ1 Q) X
theorem wDc_e {wi : WI} {g : WG} {t : WT} {wk wv : WD} {vs : List Nat} {ρ : Rho} {Q : QD} {X : XD} : wDc wi g t wk wv vs ρ Q X = wi ρ (fun items ρ1 => DcG items g t wk wv vs ρ1 Q) X := rfl
structure DcS (B : Bs) (A : Addr → Prop) (F : List Addr) (H : Hp) (pr : Nat → Option V) (τ : L2.St) (ρ : Rho) (Dl : Addr) (ks ds : List D) (ws : List V) : Prop where
  env : Env B A H pr τ ρ F
  aD : A Dl
  nD : Dl ∉ F
  hD : DicAt B H Dl ks ws
  nf : NoFz H Dl
  ra : RpA B A H ds ws []
section
variable {B : Bs} {A A1 A5 A6 : Addr → Prop} {F F1 F5 F6 : List Addr} {H H1 H5 H6 : Hp} {pr : Nat → Option V} {τ τ6 τ' : L2.St} {ρ ρ6 : Rho} {Dl : Addr} {ks ds : List D} {ws : List V} {vs : List Nat}
theorem DcS.step (s : DcS B A F H pr τ ρ Dl ks ds ws) (t : Step A F H A6 F6 H6) (e : Env B A6 H6 pr τ6 ρ6 F6) : DcS B A6 F6 H6 pr τ6 ρ6 Dl ks ds ws := by
  have hne : H6 Dl = H Dl := by
    cases hx : H Dl with
    | none => exact absurd hx s.hD.ne
    | some u => exact t.keep.at_ _ _ s.nD hx
  exact ⟨e, t.ak Dl s.aD s.nD, fun z => (t.fo Dl z).elim s.nD s.hD.ne, DicAt.keep t.keep s.nD s.hD, fun o u h => s.nf o u (by rw [← hne]; exact h), RpA.stay ⟨t.keep, s.env.fa, t.ao, t.ak⟩ _ _ _ (by simp) s.ra⟩
end
mutual
theorem KeyR.rp {B : Bs} {A : Addr → Prop} {H : Hp} : ∀ (d : D) (v : V), KeyR B H d v → d.ck.isSome = true → Rp B A H d v []
  | .non, _, h, _ => by rw [KeyR] at h; rw [Rp]; exact ⟨h, rfl⟩
  | .bl _, _, h, _ => by rw [KeyR] at h; rw [Rp]; exact ⟨h, rfl⟩
  | .int _, _, h, _ => by rw [KeyR] at h; rw [Rp]; exact ⟨h, rfl⟩
  | .str _, _, h, _ => by rw [KeyR] at h; rw [Rp]; exact ⟨h, rfl⟩
  | .tup ds, _, h, e => by
    rw [KeyR] at h
    obtain ⟨a, vs, rfl, q, r⟩ := h
    rw [Rp]
    rw [D.ck, Option.isSome_map] at e
    exact ⟨a, vs, rfl, q, KeyRA.rp ds vs r e⟩
  | .ty _, _, _, e => by cases e
  | .fn _, _, _, e => by cases e
  | .lst _ _, _, _, e => by cases e
  | .ins _ _ _ _, _, _, e => by cases e
  | .dic _ _ _, _, _, e => by cases e
  | .spring _, _, _, e => by cases e
  | .script, _, _, e => by cases e
  | .box _, _, _, e => by cases e
  | .reco _ _, _, _, e => by cases e
  | .val _, _, _, e => by cases e
  | .exc _ _ _ _ _, _, _, e => by cases e
theorem KeyRA.rp {B : Bs} {A : Addr → Prop} {H : Hp} : ∀ (ds : List D) (vs : List V), KeyRA B H ds vs → (D.ckA ds).isSome = true → RpA B A H ds vs []
  | [], _, h, _ => by rw [KeyRA] at h; rw [RpA]; exact ⟨h, rfl⟩
  | d :: ds, _, h, e => by
    rw [KeyRA] at h
    obtain ⟨v, vr, rfl, p, r⟩ := h
    rw [D.ckA] at e
    cases hd : D.ck d with
    | none => rw [hd] at e; cases e
    | some c =>
      cases hds : D.ckA ds with
      | none => rw [hd, hds] at e; cases e
      | some cs =>
        rw [RpA]
        exact ⟨v, vr, [], [], rfl, rfl, KeyR.rp d v p (by rw [hd]; rfl), KeyRA.rp ds vr r (by rw [hds]; rfl)⟩
end
def onDicZ (d : D) (k : List D → List D → Prop) : Prop := match d with
  | .dic false ks ds => k ks ds
  | _ => False
theorem onDicZ_e {ks ds : List D} {k : List D → List D → Prop} : onDicZ (.dic false ks ds) k = k ks ds := rfl
def fldZ (cs : List Str) (f : Str) (d : D) (k : D → Prop) : Prop := match d with
  | .ins false c ns ds => cs.contains c = true ∧ onSome ((ns.zip ds).lookup f) k
  | _ => False
theorem fldZ_e {cs : List Str} {f c : Str} {ns : List Str} {ds : List D} {k : D → Prop} : fldZ cs f (.ins false c ns ds) k = (cs.contains c = true ∧ onSome ((ns.zip ds).lookup f) k) := rfl
/-- {k: v for t in x.f if c}: x.f a dict, x lent -/
def wDcF (cs : List Str) (f : Str) (i : Nat) (g : WG) (t : WT) (wk wv : WD) (vs : List Nat) : WD := fun ρ Q _ => sl ρ i fun d => fldZ cs f d fun x => onDicZ x fun ks _ => DcG ks g t wk wv vs ρ Q
theorem wDcF_e {cs : List Str} {f : Str} {i : Nat} {g : WG} {t : WT} {wk wv : WD} {vs : List Nat} {ρ : Rho} {Q : QD} {Xd : XD} : wDcF cs f i g t wk wv vs ρ Q Xd = sl ρ i fun d => fldZ cs f d fun x => onDicZ x fun ks _ => DcG ks g t wk wv vs ρ Q := rfl
end DL
namespace DL
open PySem PySem.Spec PyProof.Rows L2 PB
def wFilt (i : Nat) (p : List Acc) (r : Nat) (t : WT) : WD := fun ρ Q _ => sl ρ i fun d0 => r < ρ.length ∧ onBxP (getP p d0) fun ds => ∀ u, ∃ kp : D → Bool,
  ds.length ≤ 1000000 ∧ (∀ d ∈ ds, t (((ρ.set i (some (setP p d0 (.val u)))).set r none).set r (some d)) (fun b ρ' => b = kp d ∧ ρ' = (((ρ.set i (some (setP p d0 (.val u)))).set r none).set r (some d))) fun _ _ => False) ∧ Q (.box (ds.filter kp)) ((ρ.set i (some (setP p d0 (.val u)))).set r none)
theorem wFilt_e {i r : Nat} {p : List Acc} {t : WT} {ρ : Rho} {Q : QD} {Xd : XD} : wFilt i p r t ρ Q Xd = sl ρ i fun d0 => r < ρ.length ∧ onBxP (getP p d0) fun ds => ∀ u, ∃ kp : D → Bool,
  ds.length ≤ 1000000 ∧ (∀ d ∈ ds, t (((ρ.set i (some (setP p d0 (.val u)))).set r none).set r (some d)) (fun b ρ' => b = kp d ∧ ρ' = (((ρ.set i (some (setP p d0 (.val u)))).set r none).set r (some d))) fun _ _ => False) ∧ Q (.box (ds.filter kp)) ((ρ.set i (some (setP p d0 (.val u)))).set r none) := rfl
def onRecoP (d : Option D) (k : List Str → List D → Prop) : Prop := match d with
  | some (.reco ns ds) => k ns ds
  | _ => False
theorem onRecoP_e {ns : List Str} {ds : List D} {k : List Str → List D → Prop} : onRecoP (some (.reco ns ds)) k = k ns ds := rfl
def gSetO (i : Nat) (p : List Acc) (s : Str) : WG := fun d ρ k => sl ρ i fun d0 => onRecoP (getP p d0) fun ns ds => ns.contains s = true ∧ ns.length < 1000000 ∧ k (ρ.set i (some (setP p d0 (.reco ns (setN s d ns ds)))))
theorem gSetO_e {i : Nat} {p : List Acc} {s : Str} {d : D} {ρ : Rho} {k : Rho → Prop} : gSetO i p s d ρ k = sl ρ i fun d0 => onRecoP (getP p d0) fun ns ds => ns.contains s = true ∧ ns.length < 1000000 ∧ k (ρ.set i (some (setP p d0 (.reco ns (setN s d ns ds))))) := rfl
end DL
namespace DL
open PySem PySem.Spec PyProof.Rows L2 PB
end DL
namespace DL
open PySem PySem.Spec PyProof.Rows L2 PB
def wLcP (i : Nat) (p : List Acc) (r : Nat) (we : WD) : WD := fun ρ Q _ => sl ρ i fun d0 => r < ρ.length ∧ r ≠ i ∧ onBxP (getP p d0) fun ds => ∀ u, ∃ out : D → D,
  getP p (setP p d0 (.val u)) = some (.val u) ∧ ds.length ≤ 1000000 ∧ (∀ d ∈ ds, (out d).isFz = true ∧ we (((ρ.set i (some (setP p d0 (.val u)))).set r none).set r (some d)) (fun v ρ' => v = out d ∧ ρ' = (((ρ.set i (some (setP p d0 (.val u)))).set r none).set r (some d))) fun _ _ => False) ∧ Q (.lst true (ds.map out)) (((ρ.set i (some (setP p d0 (.val u)))).set r none).set i (some (setP p (setP p d0 (.val u)) (.box ds))))
theorem wLcP_e {i r : Nat} {p : List Acc} {we : WD} {ρ : Rho} {Q : QD} {Xd : XD} : wLcP i p r we ρ Q Xd = sl ρ i fun d0 => r < ρ.length ∧ r ≠ i ∧ onBxP (getP p d0) fun ds => ∀ u, ∃ out : D → D,
  getP p (setP p d0 (.val u)) = some (.val u) ∧ ds.length ≤ 1000000 ∧ (∀ d ∈ ds, (out d).isFz = true ∧ we (((ρ.set i (some (setP p d0 (.val u)))).set r none).set r (some d)) (fun v ρ' => v = out d ∧ ρ' = (((ρ.set i (some (setP p d0 (.val u)))).set r none).set r (some d))) fun _ _ => False) ∧ Q (.lst true (ds.map out)) (((ρ.set i (some (setP p d0 (.val u)))).set r none).set i (some (setP p (setP p d0 (.val u)) (.box ds)))) := rfl
end DL
namespace DL
open PySem PySem.Spec PyProof.Rows L2 PB
section
variable {B : Bs} {X : Cx}
def gListX : List D → (D → Prop) → Prop := fun as Q => match as with
  | [.dic _ ks _] => Q (.lst true ks)
  | as => gList as Q
theorem gListX_d {b : Bool} {ks ds : List D} {k : D → Prop} : gListX [.dic b ks ds] k = k (.lst true ks) := rfl
theorem gListX_l {b : Bool} {ds : List D} {k : D → Prop} : gListX [.lst b ds] k = k (.lst true ds) := rfl
theorem gListX_t {ds : List D} {k : D → Prop} : gListX [.tup ds] k = cond (D.isFzA ds) (k (.lst true ds)) False := rfl
def gMin2 : List D → (D → Prop) → Prop
  | [.int i, .int j], Q => Q (.int (if j < i then j else i))
  | _, _ => False
theorem gMin2_e {i j : Int} {k : D → Prop} : gMin2 [.int i, .int j] k = k (.int (if j < i then j else i)) := rfl
variable {pr : Nat → Option V} {W : WX} {e o i0 value : Expr} {pos tpos apos cpos : Pos} {wa wk : WD} {ws : List WD}
def sSet3 (w : WD) (i j k : Nat) : WS := fun E ρ => w ρ (fun d ρ' => d.isFz = true ∧ E.nx (((ρ'.set i (some d)).set j (some d)).set k (some d))) E.xx
theorem sSet3_e {w : WD} {i j k : Nat} {E : DEnds} {ρ : Rho} : sSet3 w i j k E ρ = w ρ (fun d ρ' => d.isFz = true ∧ E.nx (((ρ'.set i (some d)).set j (some d)).set k (some d))) E.xx := rfl
def onCnt (d y : D) (k : List D → List D → Nat → Int → Prop) : Prop := match d with
  | .dic true ks ds => ks ≠ [] ∧ ks.all D.isIS = true ∧ y.isIS = true ∧ ∃ j n, dAt ks y = some j ∧ ds[j]? = some (.int n) ∧ k ks ds j n
  | _ => False
theorem onCnt_e {ks ds : List D} {y : D} {k : List D → List D → Nat → Int → Prop} : onCnt (.dic true ks ds) y k = (ks ≠ [] ∧ ks.all D.isIS = true ∧ y.isIS = true ∧ ∃ j n, dAt ks y = some j ∧ ds[j]? = some (.int n) ∧ k ks ds j n) := rfl
def sAugK (i : Nat) (wk : WD) (m : Int) : WS := fun E ρ => sl ρ i fun d0 => isDc d0 (wk ρ (fun y ρ1 => sl ρ1 i fun d => onCnt d y fun ks ds j n => ks.length < 1000000 ∧ E.nx (ρ1.set i (some (.dic true ks (ds.set j (.int (n + m))))))) E.xx)
theorem sAugK_e {i : Nat} {wk : WD} {m : Int} {E : DEnds} {ρ : Rho} : sAugK i wk m E ρ = sl ρ i fun d0 => isDc d0 (wk ρ (fun y ρ1 => sl ρ1 i fun d => onCnt d y fun ks ds j n => ks.length < 1000000 ∧ E.nx (ρ1.set i (some (.dic true ks (ds.set j (.int (n + m))))))) E.xx) := rfl
def hCnt (l : D) (as : List D) (k : D → Prop) : Prop := match l, as with
  | .lst _ ds, [y] => y.flat = true ∧ ds.all D.flat = true ∧ k (.int ((ds.countP fun d => d.eqv y : Nat) : Int))
  | _, _ => False
def wCnt (i : Nat) (ws : List WD) : WD := fun ρ Q Xd => sl ρ i fun d0 => isLx d0 (wL ws ρ (fun as ρ1 => sl ρ1 i fun l => hCnt l as fun r => Q r ρ1) Xd)
theorem wCnt_e {i : Nat} {ρ : Rho} {Q : QD} {Xd : XD} : wCnt i ws ρ Q Xd = sl ρ i fun d0 => isLx d0 (wL ws ρ (fun as ρ1 => sl ρ1 i fun l => hCnt l as fun r => Q r ρ1) Xd) := rfl
theorem hCnt_e {b : Bool} {ds : List D} {y : D} {k : D → Prop} : hCnt (.lst b ds) [y] k = (y.flat = true ∧ ds.all D.flat = true ∧ k (.int ((ds.countP fun d => d.eqv y : Nat) : Int))) := rfl
end
end DL
namespace DL
open PySem PySem.Spec PyProof.Rows L2 PB
end DL
namespace DL
open PySem PySem.Spec PyProof.Rows L2 PB
def D.isTup : D → Bool
  | .tup _ => true
  | _ => false
def D.isTxt : D → Bool
  | .str _ => true
  | _ => false
mutual
/-- the lists that it owns hold texts -/
def D.txtL : D → Bool
  | .tup ds => D.txtLA ds
  | .box _ => false
  | .reco _ ds => D.txtLA ds
  | .lst o ds => match o with
    | true => ds.all D.isTxt
    | false => true
  | .ins o _ _ ds => match o with
    | true => D.txtLA ds
    | false => true
  | _ => true
def D.txtLA : List D → Bool
  | [] => true
  | d :: ds => D.txtL d && D.txtLA ds
end
mutual
/-- nothing frozen is in it, but for instances with other fields and lists with tuples -/
def D.noY (nss : List (List Str)) : D → Bool
  | .tup ds => D.noYA nss ds
  | .box ds => D.noYA nss ds
  | .reco _ ds => D.noYA nss ds
  | .lst o ds => (o || ds.any D.isTup) && D.noYA nss ds
  | .ins o _ ns ds => (o || !(nss.contains ns)) && D.noYA nss ds
  | .dic o _ ds => o && D.noYA nss ds
  | .script => false
  | .exc _ _ _ _ _ => false
  | _ => true
def D.noYA (nss : List (List Str)) : List D → Bool
  | [] => true
  | d :: ds => D.noY nss d && D.noYA nss ds
end
def OwnT (nss : List (List Str)) (x : Option HO) : Prop := (∃ xs : List Str, x = some (.lst (xs.map V.str))) ∨ (∃ kvs, x = some (.dK kvs)) ∨ (∃ φ, x = some (.ext φ)) ∨ ∃ c dx ns vs, x = some (.ins c dx (List.zip ns vs)) ∧ ns.length = vs.length ∧ ns ∈ nss
theorem OwnT.mono {nss mss : List (List Str)} {x : Option HO} (h : OwnT nss x) (s : ∀ n ∈ nss, n ∈ mss) : OwnT mss x := by
  rcases h with h | h | h | ⟨c, dx, ns, vs, e, l, m⟩
  · exact .inl h
  · exact .inr (.inl h)
  · exact .inr (.inr (.inl h))
  · exact .inr (.inr (.inr ⟨c, dx, ns, vs, e, l, s ns m⟩))
/-- a slot behind the expression: without frozen lists, or as it was -/
def okY (nss : List (List Str)) (x y : Option D) : Prop := match y with
  | none => True
  | some d => d.noY nss = true ∨ (x = some d ∧ d.isFz = true)
def bryAll (nss : List (List Str)) : Rho → Rho → Prop
  | [], [] => True
  | x :: ρ, y :: ρ' => okY nss x y ∧ bryAll nss ρ ρ'
  | _, _ => False
def bryOk (nss : List (List Str)) : Nat → Rho → Rho → Prop
  | 0, _ :: ρ, _ :: ρ' => bryAll nss ρ ρ'
  | i + 1, x :: ρ, y :: ρ' => okY nss x y ∧ bryOk nss i ρ ρ'
  | _, _, _ => False
/-- slot i is lent for reading -/
def wBry (i : Nat) (w : WD) : WD := fun ρ Q X => sl ρ i fun d => d.mayLend = true ∧ d.txtL = true ∧ w (ρ.set i (some d.freeze)) (fun r ρ' => r.noY d.insNs = true ∧ bryOk d.insNs i ρ ρ' ∧ Q r (ρ'.set i (some d))) fun _ _ => False
theorem wBry_e {i : Nat} {w : WD} {ρ : Rho} {Q : QD} {X : XD} : wBry i w ρ Q X = sl ρ i fun d => d.mayLend = true ∧ d.txtL = true ∧ w (ρ.set i (some d.freeze)) (fun r ρ' => r.noY d.insNs = true ∧ bryOk d.insNs i ρ ρ' ∧ Q r (ρ'.set i (some d))) fun _ _ => False := rfl
theorem bryOk_0 {nss : List (List Str)} {x y : Option D} {ρ ρ' : Rho} : bryOk nss 0 (x :: ρ) (y :: ρ') = bryAll nss ρ ρ' := rfl
theorem bryOk_s {nss : List (List Str)} {i : Nat} {x y : Option D} {ρ ρ' : Rho} : bryOk nss (i + 1) (x :: ρ) (y :: ρ') = (okY nss x y ∧ bryOk nss i ρ ρ') := rfl
theorem bryAll_c {nss : List (List Str)} {x y : Option D} {ρ ρ' : Rho} : bryAll nss (x :: ρ) (y :: ρ') = (okY nss x y ∧ bryAll nss ρ ρ') := rfl
theorem bryAll_n {nss : List (List Str)} : bryAll nss [] [] = True := rfl
theorem okY_n {nss : List (List Str)} {x : Option D} : okY nss x none = True := rfl
section
variable {B : Bs} {X : Cx}
def gDictX : List D → (D → Prop) → Prop := fun as Q => match as with
  | [.dic _ ks ds] => ks.all D.isIS = true ∧ Q (.dic true ks ds)
  | _ => False
theorem gDictX_d {b : Bool} {ks ds : List D} {k : D → Prop} : gDictX [.dic b ks ds] k = (ks.all D.isIS = true ∧ k (.dic true ks ds)) := rfl
end
end DL
namespace DL
open PySem PySem.Spec PyProof.Rows L2 PB
end DL
namespace DL
open PySem PySem.Spec PyProof.Rows L2 PB
def wBrxT (i : Nat) (ta : WT) : WT := fun ρ Q _ => sl ρ i fun d => d.mayLend = true ∧ ta (ρ.set i (some d.freeze)) (fun b ρ' => brxOk d.insNs i ρ ρ' ∧ Q b (ρ'.set i (some d))) fun _ _ => False
theorem wBrxT_e {i : Nat} {ta : WT} {ρ : Rho} {Q : Bool → Rho → Prop} {X : XD} : wBrxT i ta ρ Q X = sl ρ i fun d => d.mayLend = true ∧ ta (ρ.set i (some d.freeze)) (fun b ρ' => brxOk d.insNs i ρ ρ' ∧ Q b (ρ'.set i (some d))) fun _ _ => False := rfl
section
variable {B : Bs} {X : Cx} {pr : Nat → Option V} {W : WX} {e : Expr}
theorem lift_brxT {i : Nat} {ta : WT} {σ : L2.St} {H : Hp} {Q : Bool → Hp → Prop} (h : liftT B pr W (wBrxT i ta) σ H Q) : liftT B pr W ta σ H Q := by
  obtain ⟨A, F, ρ, Qd, Xd, en, h, hq, hx⟩ := h
  obtain ⟨d, hi, mf, h⟩ := sl_iff.mp h
  obtain ⟨v, f1, g, f2, ev, rfl, p, back⟩ := EnvR.at_ ρ σ F i d hi en.r
  have nd := en.nd
  have nd2 : (f1 ++ f2).Nodup := nd.sublist (by rw [List.append_assoc]; exact List.Sublist.append_left (List.sublist_append_right ..) _)
  have hs : ∀ a ∈ f1 ++ f2, a ∉ g := fun a ha hg => by
    rw [List.append_assoc] at nd
    have n1 := List.nodup_append.mp nd
    rcases List.mem_append.mp ha with ha | ha
    · exact n1.2.2 a ha a (List.mem_append_left _ hg) rfl
    · exact (List.nodup_append.mp n1.2.1).2.2 a hg a ha rfl
  have hf : ∀ a ∈ f1 ++ f2, a ∈ f1 ++ g ++ f2 := fun a ha => by rcases List.mem_append.mp ha with ha | ha <;> simp [ha]
  have hgl := Rp.ownK d v g mf p
  have hgA := Rp.own d v g p
  have t0 : Step A (f1 ++ g ++ f2) H (Less A g) (f1 ++ f2) H := ⟨.refl _, fun a ha => .inl (hf a ha), fun a ha => .inl ha.1, fun a ha n => ⟨ha, fun z => n (by simp [z])⟩⟩
  have e0 : Env B (Less A g) H pr σ (ρ.set i (some d.freeze)) (f1 ++ f2) := by
    refine ⟨?_, nd2, fun a ha => en.al a ha.1, en.pr⟩
    have r := back (Less A g) H d.freeze v [] (fun r s h a b => EnvR.less g r s h (fun z hz => hs z (b z hz)) a) (Rp.lend g d v g (fun _ h => h) mf p)
    rw [set_same ev] at r
    simpa using r
  refine ⟨Less A g, f1 ++ f2, _, _, _, e0, h, fun r ρ' hd A1 F1 H1 st oe => ?_, fun _ _ z => z.elim⟩
  obtain ⟨hb, hd⟩ := hd
  -- the lists stand as they stood
  have gat : ∀ a ∈ g, H1 a = H a := fun a ha => by
    cases hx : H a with
    | none => exact absurd hx (hgA a ha).2
    | some u => exact st.keep.at_ a _ (fun z => hs a z ha) hx
  have gno : ∀ a ∈ g, ¬ A1 a := fun a ha z => (st.ao a z).elim (fun q => q.2 ha) (hgA a ha).2
  have A2e : ∀ a, (fun a => A1 a ∨ a ∈ g) a ↔ A1 a ∨ a ∈ g := fun _ => Iff.rfl
  have hgl1 : ∀ a ∈ g, OwnK d.insNs (H1 a) := fun a ha => by rw [gat a ha]; exact hgl a ha
  have hN : ∀ d2 v g', d2.noX d.insNs = true → Rp B A1 H1 d2 v g' → Rp B (fun a => A1 a ∨ a ∈ g) H1 d2 v g' := fun d2 v g' m p => Rp.againX hgl1 A2e d2 v g' m p
  have sk : Keep (f1 ++ f2) H H1 := st.keep
  have fa := en.fa
  have s0 : Stays A (f1 ++ f2) H (fun a => A1 a ∨ a ∈ g) H1 := ⟨sk, fun a ha => fa a (hf a ha), fun a ha => by
    rcases ha with z | z
    · exact (st.ao a z).imp (fun q => q.1) id
    · exact .inl (fa a (by simp [z])), fun a ha n => by
    by_cases z : a ∈ g
    · exact .inr z
    · exact .inl (st.ak a ⟨ha, z⟩ n)⟩
  have hS : ∀ d v, d.isFz = true → Rp B A H d v [] → Rp B (fun a => A1 a ∨ a ∈ g) H1 d v [] := fun d v _ p => Rp.stay s0 d v [] (by simp) p
  obtain ⟨hlen, f3, sub, r3⟩ := EnvR.brx hN hS i _ _ _ _ _ en.r oe.r hb
  have pg : Rp B (fun a => A1 a ∨ a ∈ g) H1 d v g := Rp.stay s0 d v g (fun a ha z => hs a z ha) p
  obtain ⟨u1, u2, rfl, r4⟩ := EnvR.put (ρ'.set i none) σ f3 i d v g (by simpa using hlen) (by simp [hlen]) r3 pg
  rw [List.set_set, set_same ev] at r4
  have gu : ∀ a ∈ u1 ++ u2, a ∉ g := fun a ha z => (st.fo a (sub.subset ha)).elim (fun q => hs a q z) (hgA a z).2
  have ngx : g.Nodup := (List.nodup_append.mp (List.nodup_append.mp nd).1).2.1
  have nu := oe.nd.sublist sub
  have nds : (u1 ++ g ++ u2).Nodup := by
    have h1 := List.nodup_append.mp nu
    refine List.nodup_append.mpr ⟨List.nodup_append.mpr ⟨h1.1, ngx, fun a ha b hb e => gu a (by simp [ha]) (by rw [e]; exact hb)⟩, h1.2.1, fun a ha b hb e => ?_⟩
    rcases List.mem_append.mp ha with z | z
    · exact h1.2.2 a z b hb e
    · exact gu b (by simp [hb]) (by rw [← e]; exact z)
  have al2 : ∀ a, (A1 a ∨ a ∈ g) → H1 a ≠ none := fun a ha => by
    rcases ha with z | z
    · exact oe.al a z
    · rw [gat a z]; exact (hgA a z).2
  refine hq _ _ hd (fun a => A1 a ∨ a ∈ g) (u1 ++ g ++ u2) H1 ⟨⟨fun b ob n hb => sk.at_ b ob (fun z => n (hf b z)) hb, sk.imm⟩, fun a ha => ?_, s0.ao, fun a ha n => s0.ak a ha fun z => n (hf a z)⟩ ⟨r4, nds, al2, oe.pr⟩
  rcases List.mem_append.mp ha with z | z
  · rcases List.mem_append.mp z with z | z
    · exact (st.fo a (sub.subset (by simp [z]))).imp (hf a) id
    · exact .inl (by simp [z])
  · exact (st.fo a (sub.subset (by simp [z]))).imp (hf a) id
theorem dt_brx {ta : WT} (i : Nat) (h : DT B X pr W e ta) : DT B X pr W e (wBrxT i ta) := ptW h fun _ _ _ h => lift_brxT h
end
end DL
namespace PB
open PySem PySem.Spec PyProof.Rows L2
end PB
namespace DL
open PySem PySem.Spec PyProof.Rows L2 PB
section
variable {B : Bs} {X : Cx} {pr : Nat → Option V} {W : WX} {a b o value tg : Expr} {oa ob : Opd} {wa : WD} {pos pos' : Pos} {c f : Str} {s : DSp} {k i : Nat} {ps : List Str}
def wIxOwn (c : Str) (s : DSp) (oa ob : Opd) : WD := fun ρ Q X => wArgs [oa, ob] ρ (fun as ρ1 => onTwo as fun x y => argD x ρ1 (isC c) ∧ callK s [] [x, y] ρ1 Q X) X
theorem wIxOwn_e {ρ : Rho} {Q : QD} {X : XD} : wIxOwn c s oa ob ρ Q X = wArgs [oa, ob] ρ (fun as ρ1 => onTwo as fun x y => argD x ρ1 (isC c) ∧ callK s [] [x, y] ρ1 Q X) X := rfl
/-- x.f = v, f a property with a setter; x a slot -/
def sSetPropD (c : Str) (s : DSp) (i : Nat) (w : WD) : WS := fun E ρ => w ρ (fun d ρ1 => cond d.mayFreeze (sl ρ1 i (isC c) ∧ callK s [] [.s i, .z d.freeze] ρ1 (fun _ ρ2 => E.nx ρ2) fun _ _ => False) False) E.xx
theorem sSetPropD_e {w : WD} {E : DEnds} {ρ : Rho} : sSetPropD c s i w E ρ = w ρ (fun d ρ1 => cond d.mayFreeze (sl ρ1 i (isC c) ∧ callK s [] [.s i, .z d.freeze] ρ1 (fun _ ρ2 => E.nx ρ2) fun _ _ => False) False) E.xx := rfl
/-- x[j] = v by an own __setitem__; x a slot -/
def gSetOwn (c : Str) (s : DSp) (i : Nat) (w : WD) : WG := fun d ρ k => cond d.isFz (sl ρ i (isC c) ∧ w ρ (fun j ρ1 => cond j.mayFreeze (sl ρ1 i (isC c) ∧ callK s [] [.s i, .z j.freeze, .z d] ρ1 (fun _ ρ2 => k ρ2) fun _ _ => False) False) fun _ _ => False) False
theorem gSetOwn_e {w : WD} {d : D} {ρ : Rho} {k : Rho → Prop} : gSetOwn c s i w d ρ k = cond d.isFz (sl ρ i (isC c) ∧ w ρ (fun j ρ1 => cond j.mayFreeze (sl ρ1 i (isC c) ∧ callK s [] [.s i, .z j.freeze, .z d] ρ1 (fun _ ρ2 => k ρ2) fun _ _ => False) False) fun _ _ => False) False := rfl
end
end DL
namespace DL
open PySem PySem.Spec PyProof.Rows L2 PB
def onLM (d0 : D) (d : Option D) (k : List D → Prop) : Prop := match d with
  | some (.lst true ds) => d0.mayLend = true ∧ k ds
  | _ => False
theorem onLM_e {d0 : D} {ds : List D} {k : List D → Prop} : onLM d0 (some (.lst true ds)) k = (d0.mayLend = true ∧ k ds) := rfl
theorem onLM_iff {d0 : D} {d : Option D} {k : List D → Prop} (h : onLM d0 d k) : ∃ ds, d = some (.lst true ds) ∧ d0.mayLend = true ∧ k ds := by
  unfold onLM at h
  split at h
  · exact ⟨_, rfl, h.1, h.2⟩
  · exact h.elim
def wDelL (i : Nat) (p : List Acc) (w : WD) : WDl := fun ρ Kd => sl ρ i fun d0 => onLM d0 (getP p d0) fun ds => w (ρ.set i (some d0.freeze)) (fun j ρ1 => brxOk d0.insNs i ρ ρ1 ∧ onInt j fun z => onSome (ixN ds.length z) fun n => Kd (ρ1.set i (some (setP p d0 (.lst true (ds.eraseIdx n)))))) fun _ _ => False
theorem wDelL_e {i : Nat} {p : List Acc} {w : WD} {ρ : Rho} {Kd : Rho → Prop} : wDelL i p w ρ Kd = sl ρ i fun d0 => onLM d0 (getP p d0) fun ds => w (ρ.set i (some d0.freeze)) (fun j ρ1 => brxOk d0.insNs i ρ ρ1 ∧ onInt j fun z => onSome (ixN ds.length z) fun n => Kd (ρ1.set i (some (setP p d0 (.lst true (ds.eraseIdx n)))))) fun _ _ => False := rfl
def tDelLs (td ty : TE) : TDl := fun σ H Q => td σ H fun x H1 => ty σ H1 fun y H2 => ∃ (l : Addr) (xs : List V) (i : Int) (k : Nat), x = .ref l ∧ y = .int i ∧ H2 l = some (.lst xs) ∧ ixN xs.length i = some k ∧ Q (upd H2 l (.lst (xs.eraseIdx k)))
theorem pdl_subL {X : Cx} {o i : Expr} {tpos : Pos} {td ty : TE} (ho : PE X o td) (hi : PE X i ty) : PDl X (.Subscript o i tpos) (tDelLs td ty) := by
  refine ⟨fun pins s σ H Q I h => ?_⟩
  refine wpAny_delete_Subscript (thn (ho.run pins s σ H _ I h) fun u s1 ⟨x, H1, I1, rx, q1⟩ => thn (hi.run pins s1 σ H1 _ I1 q1) fun iv s2 ⟨y, H2, I2, ry, q2⟩ => ?_)
  obtain ⟨l, xs, j, k, ex, ey, hH, hk, q2⟩ := q2
  obtain ⟨its, n0, r0, ho0, hz⟩ := I2.lst hH
  obtain ⟨h1, h2, h3, h4⟩ := ixN_seq hk
  have hn := line63
  subst ex ey
  obtain rfl : u = Value.ref l := rx
  obtain ⟨t, rfl⟩ := (show ∃ t, iv = Value.int j t from ry)
  exact del_list I2 hH (by omega) (by omega) h1 fun s3 I3 => ⟨_, I3, q2⟩
section
variable {B : Bs} {X : Cx} {pr : Nat → Option V} {W : WX}
theorem ddl_PLW {o k : Expr} {i : Nat} {p : List Acc} {w : WD} {tpos : Pos} (ok : PthOk B.K p) (ho : PE X o (tP B.K p (tVar i))) (hk : DE B X pr W k w) : DDl B X pr (.Subscript o k tpos) (wDelL i p w) := by
  refine pdlW (pdl_subL ho hk) fun σ H Q ⟨A, F, ρ, Kd, en, h, kk⟩ => ?_
  obtain ⟨d0, hi, h⟩ := sl_iff.mp h
  obtain ⟨ds, hp, mf, h⟩ := onLM_iff h
  obtain ⟨u, g2, F0, v, g, ⟨ev, pd, sep, gF⟩, rd, r2, e0, o1, o2, o3, n2, fin⟩ := en.placeG hi ok hp
  have hl : i < ρ.length := (List.getElem?_eq_some_iff.mp hi).1
  refine rd _ ⟨Less A g, F0, _, _, _, e0.lendIn hl mf ev pd sep, h, fun j ρ1 hd A1 F1 H1 y fj o4 => ?_, fun _ _ z => z.elim⟩
  obtain ⟨hb, hd⟩ := hd
  cases j <;> first | exact hd.elim | skip
  rename_i z
  obtain ⟨n, hn, hd⟩ := onSome_iff.mp hd
  have oy := o4.val
  rw [Rp] at oy
  obtain ⟨rfl, rfl⟩ := oy
  obtain ⟨hl1, F2, e2, s2, _⟩ := en.lendOut mf pd o2 gF sep o4.step o4.env hb
  obtain ⟨rr, gg, fin2⟩ := fin _ _ _ _ s2 e2 (by rw [List.getElem?_set]; simp [hl1])
  rw [Rp] at rr
  obtain ⟨a, vs, rfl, ra, q, qa, rfl⟩ := rr
  have hlen := RpA.len _ _ _ ra
  rw [← hlen] at hn
  refine ⟨a, vs, z, n, rfl, rfl, q, hn, ?_⟩
  have st := Stays.obj (A := fun a => A1 a ∨ a ∈ g) (w := .lst (vs.eraseIdx n)) q (fun z => z) qa
  obtain ⟨F3, e3, s3, _, _⟩ := fin2 [] _ (upd H1 a (.lst (vs.eraseIdx n))) (.lst true (ds.eraseIdx n)) [a] [] (by simp) (Step.obj q (fun z => z) (by simp) (by simp)) (by rw [Rp]; exact ⟨a, _, rfl, RpA.stay st _ _ _ (by simp) (RpA.erase n ra), upd_same, qa, rfl⟩) (by simp) (al_obj e2.al) (by simp)
  rw [List.set_set] at e3
  exact kk _ hd _ F3 _ (by simpa using s3) e3
theorem ddl_PL {o k : Expr} {i : Nat} {p : List Acc} {w : WD} {tpos : Pos} (ok : PthOk B.K p) (ho : PE X o (tP B.K p (tVar i))) (hk : DE B X pr W0 k w) : DDl B X pr (.Subscript o k tpos) (wDelL i p w) := ddl_PLW ok ho hk
end
end DL
namespace DL
open PySem PySem.Spec PyProof.Rows L2 PB
def onDicY (d : D) (k : List D → List D → Prop) : Prop := match d with
  | .dic _ ks ds => k ks ds
  | _ => False
theorem onDicY_e {o : Bool} {ks ds : List D} {k : List D → List D → Prop} : onDicY (.dic o ks ds) k = k ks ds := rfl
/-- the keys of the dict in slot j, which is frozen -/
def sForDX (j : Nat) (g : WG) (s : WS) : WS := fun E ρ => sl ρ j fun d => onDicY d fun ks ds => ForG ks g s (noX E) (ρ.set j (some (.dic false ks ds)))
theorem sForDX_e {j : Nat} {g : WG} {s : WS} {E : DEnds} {ρ : Rho} : sForDX j g s E ρ = sl ρ j fun d => onDicY d fun ks ds => ForG ks g s (noX E) (ρ.set j (some (.dic false ks ds))) := rfl
section
variable {B : Bs} {X : Cx}
def gDictN : List D → (D → Prop) → Prop := fun as Q => match as with
  | [.lst _ items] => ∃ kvs : List (D × D), items = kvs.map (fun p => D.tup [p.1, p.2]) ∧ (kvs.map fun p => p.1.ck).Nodup ∧ kvs.all (fun p => p.1.isT && p.1.kOk) = true ∧ Q (.dic true (kvs.map (·.1)) (kvs.map (·.2)))
  | _ => False
theorem gDictN_l {b : Bool} {items : List D} {k : D → Prop} : gDictN [.lst b items] k = ∃ kvs : List (D × D), items = kvs.map (fun p => D.tup [p.1, p.2]) ∧ (kvs.map fun p => p.1.ck).Nodup ∧ kvs.all (fun p => p.1.isT && p.1.kOk) = true ∧ k (.dic true (kvs.map (·.1)) (kvs.map (·.2))) := rfl
end
end DL
namespace DL
open PySem PySem.Spec PyProof.Rows L2 PB
mutual
def D.noD : D → Bool
  | .tup ds => D.noDA ds
  | .box ds => D.noDA ds
  | .reco _ ds => D.noDA ds
  | .lst _ ds => D.noDA ds
  | .ins _ _ _ ds => D.noDA ds
  | .dic o _ ds => o && D.noDA ds
  | .script => false
  | .exc _ _ _ _ _ => false
  | _ => true
def D.noDA : List D → Bool
  | [] => true
  | d :: ds => D.noD d && D.noDA ds
end
def D.isOD : D → Bool
  | .dic true _ _ => true
  | _ => false
theorem isOD_e {ks ds : List D} : (D.dic true ks ds).isOD = true := rfl
/-- a slot behind the expression: without frozen dicts, or as it was -/
def okDk (x y : Option D) : Prop := match y with
  | none => True
  | some d => d.noD = true ∨ (x = some d ∧ d.isFz = true)
def brdAll : Rho → Rho → Prop
  | [], [] => True
  | x :: ρ, y :: ρ' => okDk x y ∧ brdAll ρ ρ'
  | _, _ => False
def brdOk : Nat → Rho → Rho → Prop
  | 0, _ :: ρ, _ :: ρ' => brdAll ρ ρ'
  | i + 1, x :: ρ, y :: ρ' => okDk x y ∧ brdOk i ρ ρ'
  | _, _, _ => False
/-- slot i is lent for reading -/
def wBrd (i : Nat) (w : WD) : WD := fun ρ Q X => sl ρ i fun d => d.isOD = true ∧ w (ρ.set i (some d.freeze)) (fun r ρ' => r.noD = true ∧ brdOk i ρ ρ' ∧ Q r (ρ'.set i (some d))) fun _ _ => False
theorem wBrd_e {i : Nat} {w : WD} {ρ : Rho} {Q : QD} {X : XD} : wBrd i w ρ Q X = sl ρ i fun d => d.isOD = true ∧ w (ρ.set i (some d.freeze)) (fun r ρ' => r.noD = true ∧ brdOk i ρ ρ' ∧ Q r (ρ'.set i (some d))) fun _ _ => False := rfl
theorem brdOk_0 {x y : Option D} {ρ ρ' : Rho} : brdOk 0 (x :: ρ) (y :: ρ') = brdAll ρ ρ' := rfl
theorem brdOk_s {i : Nat} {x y : Option D} {ρ ρ' : Rho} : brdOk (i + 1) (x :: ρ) (y :: ρ') = (okDk x y ∧ brdOk i ρ ρ') := rfl
theorem brdAll_c {x y : Option D} {ρ ρ' : Rho} : brdAll (x :: ρ) (y :: ρ') = (okDk x y ∧ brdAll ρ ρ') := rfl
theorem brdAll_n : brdAll [] [] = True := rfl
theorem okDk_n {x : Option D} : okDk x none = True := rfl
def wAppBx (x : Nat) (oi oj : IxO) : WD := fun ρ Q _ => sl ρ x fun l => onBox l fun ds => ixO oi ρ fun i => ixO oj ρ fun j => onSome (ixN ds.length i) fun n => onSome (ds[n]?) fun it => onOwnL it fun es => es.length < 1000000 ∧ Q .non (ρ.set x (some (.box (ds.set n (.lst true (es ++ [.int j]))))))
theorem wAppBx_e {x : Nat} {oi oj : IxO} {ρ : Rho} {Q : QD} {Xd : XD} : wAppBx x oi oj ρ Q Xd = sl ρ x fun l => onBox l fun ds => ixO oi ρ fun i => ixO oj ρ fun j => onSome (ixN ds.length i) fun n => onSome (ds[n]?) fun it => onOwnL it fun es => es.length < 1000000 ∧ Q .non (ρ.set x (some (.box (ds.set n (.lst true (es ++ [.int j])))))) := rfl
end DL
namespace DL
open PySem PySem.Spec PyProof.Rows L2 PB
def wListBx (x : Nat) (oi : IxO) : WD := fun ρ Q _ => sl ρ x fun d => onBox d fun ds => ixO oi ρ fun i => onSome (atI ds i) fun it => onOwnL it fun es => Q (.lst true es) ρ
theorem wListBx_e {x : Nat} {oi : IxO} {ρ : Rho} {Q : QD} {Xd : XD} : wListBx x oi ρ Q Xd = sl ρ x fun d => onBox d fun ds => ixO oi ρ fun i => onSome (atI ds i) fun it => onOwnL it fun es => Q (.lst true es) ρ := rfl
end DL
namespace PB
open PySem PySem.Spec PyProof.Rows L2
section
variable {prog : Program} {w : World} {A : Around} {E : Value → Shared → Prop} {h : Heap} {g : Array GenState} {d : Drawn} {t : Nat} {os : OsState}
/-- the bound ValueError.__init__ is called -/
theorem mw_init {u e C t1 : Addr} {rest : List Value} {Q : Value → Shared → Prop} {nm q : Str} {N : Addr} {bs bm : List Value} {sn : List Str} {sub : List Value} {ab : Bool} {col : Option Bool} {dd : Option Addr} {k0 k1 k2 k3 k5 : Option Value}
    (hu : h.get? u = some (PySem.W.kxs_mw "ValueError.__init__" e)) (hC : h.get? C = some (excClassObj nm q C N bs bm true sn sub ab col dd k0 k1 k2 k3 k5 "ValueError.__new__"))
    (he : h.get? e = some ({ cls := .ref C, dict := none, data := .fields #[.ref t1, .none, .none, .none, .bool false, .none] } : Obj)) (hz : rest.length ≤ sizeLine)
    (hq : ∀ h' t2, (∀ b o, b ≠ e → h.get? b = some o → h'.get? b = some o) → h'.get? e = some ({ cls := .ref C, dict := none, data := .fields #[.ref t2, .none, .none, .none, .bool false, .none] } : Obj) → Q .none ⟨h', g, d, t, os⟩) :
    wpAny (model prog w) A (call (.ref u) rest) Q E ⟨h, g, d, t, os⟩ := by
  have FB := PySem.F.excBase_ValueError
  refine wpAny_call (codeAny_of_tree ?_)
  show wpAny _ A.in1 (callAny (.ref u) ⟨rest, []⟩) _ _ _
  simp only [callAny]
  refine wpAny_bind (wpAny_load hu ?_)
  simp only [PySem.W.kxs_mw, show (Value.type "method-wrapper" == Value.type "method" || Value.type "method-wrapper" == Value.type "builtin_function_or_method" || Value.type "method-wrapper" == Value.type "method-wrapper") = true by decide, if_true]
  refine PySem.W.KFB.if_so (by decide) ?_
  refine wpAny_bind (PySem.W.check_bound_init FB.toExcCallFacts hC he rfl ?_)
  refine wpAny_bind (wpAny_pure (wpAny_pure ?_))
  refine ⟨plainId_quiet FB.init.plain _, codeAny_builtin FB.initEntry ?_⟩
  exact PySem.W.exc_init_tree (cls := .ref C) (t0 := t1) (dv := none) (c2 := .none) (c3 := .none) (b4 := .bool false) he hz fun h' k e' _ => hq h' _ k e'
end
/-- what the written part says of super() in such an __init__ (f the function, C its class) -/
structure SupI (K : PySem.W.Frag) (file : Str) (C f : Addr) (fd : FuncData) (cda cc : Addr) : Prop where
  ox : OexC K C
  sta : PySem.W.nsIn K PySem.cStatics "thirdparty.any" = some none
  sup : PySem.W.ks_superIn K C C "__init__" = some (some (.builtin "ValueError.__init__"))
  sb : PySem.W.subIn K (.ref C) (.type "ValueError") = some true
  mro : PySem.W.mroIn K C (.ref C) = some true
  fn : ∃ oc od osl, K.lookup f = some ⟨oc, od, .func fd, osl⟩
  code : ∃ cl cd vs sl tf, K.lookup cda = some ⟨cl, cd, .fields vs, sl⟩ ∧ vs[2]? = some (.str file tf)
  cell : ∃ cl cd sl, K.lookup cc = some ⟨cl, cd, .cell (some (.ref C)), sl⟩
theorem super_init {P : Program} {w : World} {K : PySem.W.Frag} {mg : Str → Option Value} {base : Heap} {A : Around} {N : List Str} {s0 : Shared} {H0 : Hp} {outer stack : List Env} {ex : List Addr} {fnn : Str → Bool} {calm : Bool} {pn : List (Addr × Obj)} {xe : Value → Shared → Prop}
    {q : Str} {scope : Scope} {L f cda cc C a : Addr} {pins : List (Addr × Obj)} {σ : L2.St} {H : Hp} {s : Shared} {body : List Stmt} {fd : FuncData} {file : Str} {ar : Arg} {m : Str} {j : Nat} {p0 p1 p2 p3 pos : Pos} {pl : Sem Bool} {Q : Value → Shared → Prop} {E : Value → Shared → Prop}
    (he : eval (.Call (.Attribute (.Call (.Name "super" p0) [] [] p1) "__init__" p2) [.Constant (.str m) j p3] [] pos) (PySem.W.ksEnv q scope L f (.ref cda) cc) = (do
      let ov ← attributeBase (.Call (.Name "super" p0) [] [] p1) "__init__" (PySem.W.ksEnv q scope L f (.ref cda) cc) (eval (.Call (.Name "super" p0) [] [] p1) (PySem.W.ksEnv q scope L f (.ref cda) cc))
      standAt p2.atName
      let (g, first) ← holding [ov] (getMethod ov "__init__" pl)
      callWith pos g first (backTo pos (starEach [.Constant (.str m) j p3] (PySem.W.ksEnv q scope L f (.ref cda) cc))) []))
    (I : Inv ⟨P, w, K, mg, base, A, N, s0, H0, PySem.W.ksEnv q scope L f (.ref cda) cc, outer, stack, ex, fnn, calm, pn, xe⟩ pins σ H s) (T : SupI K file C f fd cda cc)
    (hp : (fd.params.posonlyargs ++ fd.params.args).head? = some ar) (hfile : ((P.main.file : Str) == file) = true) (htop : (P.main.scope.names.lookup ("super" : Str)).isSome = false)
    (hks : scope.names.lookup ("super" : Str) = some .globalImplicit) (hkc : scope.names.lookup ("__class__" : Str) = some .free) (hka : scope.names.lookup ar.arg = some .local) (hk : scope.kind = .function)
    (hg : mg "super" = none) (hN : N[0]? = some ar.arg) (hs : σ[0]? = some (some (.ref a))) (ha : H a = some (exo a C none)) (h : ∀ s', Inv ⟨P, w, K, mg, base, A, N, s0, H0, PySem.W.ksEnv q scope L f (.ref cda) cc, outer, stack, ex, fnn, calm, pn, xe⟩ pins σ H s' → Q .none s') :
    PySem.wpAt (model P w) A (.func body (PySem.W.ksEnv q scope L f (.ref cda) cc)) (eval (.Call (.Attribute (.Call (.Name "super" p0) [] [] p1) "__init__" p2) [.Constant (.str m) j p3] [] pos) (PySem.W.ksEnv q scope L f (.ref cda) cc)) Q E s := by
  obtain ⟨oc, od, osl, lf⟩ := T.fn
  obtain ⟨ccl, cdd, vs, ccs, tf, lc, hvs⟩ := T.code
  obtain ⟨cl, cld, csl, lcc⟩ := T.cell
  obtain ⟨nm, qn, Nc, bs, bm, sn, sub, ab, col, dd, k0, k1, k2, k3, k5, lC, hbm⟩ := T.ox.cls
  have X : K.In s.heap := I.kIn
  obtain ⟨t1, ho⟩ := exo_at I.hok ha
  obtain ⟨mm, hns, hl⟩ := I.loc
  have hv : mm ar.arg = some (.ref a) := by
    obtain ⟨u, ru, hlk⟩ := hl 0 ar.arg (.ref a) hN hs (.inl hka)
    obtain rfl : u = Value.ref a := ru
    rcases hlk with ⟨_, e⟩ | ⟨e, _⟩
    · exact e
    · have hka' : (PySem.W.ksEnv q scope L f (.ref cda) cc).kindOf ar.arg = some .local := hka
      rw [hka'] at e
      rcases e with e | e <;> cases e
  refine PySem.ks_wpAt_MethodCall (he := he) ?_
  refine PySem.ks_wpAt_super_base (env := PySem.W.ksEnv q scope L f (.ref cda) cc) hks hkc (by decide) rfl (X _ _ lf) rfl hp rfl (X _ _ lc) rfl hvs hfile htop ?_
  have hG : s.heap.Ns mainGlobals mg := I.mod.glob.keeps I.bk
  obtain ⟨mb, h1, h2⟩ := I.mod.blt
  refine PySem.W.ks_loadName_global hk hks (PySem.Calls.loadGlobal_builtin (env := PySem.W.ksEnv q scope L f (.ref cda) cc) hG hg (h1.keeps I.bk) ((h2 "super" (by decide)).trans (by decide +kernel)) ⟨rfl, ?_⟩)
  refine wpAny_loadName_free hk hkc rfl ⟨_, X _ _ lcc, rfl⟩ ?_
  refine wpAny_loadName_local hk hka hns hv ?_
  refine PySem.ks_wpAny_isType_cls (X _ _ lC) rfl ⟨rfl, ?_⟩
  obtain ⟨hh, g, d, t, os⟩ := s
  refine PySem.ks_wpAny_call_super (X _ _ lC) rfl ho rfl (fun c e => by cases e) (PySem.W.looks_mroIn X T.mro) (fun h' e k => ?_)
  have I2 := I.kept (t' := t) k
  obtain ⟨t2, ho2⟩ := exo_at I2.hok ha
  have X2 : K.In h' := I2.kIn
  have hne : a ≠ C := fun z => by
    have e1 := X _ _ lC
    rw [← z, ho] at e1
    cases e1
  obtain ⟨cd, hclC⟩ : ∃ cd, PySem.W.clsIn K C = some cd := ⟨_, by unfold PySem.W.clsIn; rw [lC]⟩
  have hsup := T.sup
  unfold PySem.W.ks_superIn at hsup
  rw [hclC] at hsup
  have hI : PySem.W.Looks (model P w) h' (isInstance (.ref a) (.type "ValueError")) true :=
    (PySem.W.InstAt.type (⟨ho2, rfl, rfl, trivial⟩ : PySem.W.InstAt h' a _ C none)).andThen (PySem.W.looks_subIn X2 T.sb)
  refine PySem.W.kxs_getMethod PySem.W.kxs_ValueError e (PySem.W.looks_opaque X2 T.sta) (l₀ := cd.mro) (fun A Q E s k q => wpAny_bind ((PySem.W.looks_clsIn X2 hclC) A _ E s k (wpAny_pure q))) rfl X2 hsup hI hne (by decide) ?_
  have k3 : ∀ b o, h'.get? b = some o → (h'.push (PySem.W.kxs_mw "ValueError.__init__" a)).get? b = some o := fun b o e => Heap.get?_push_of_some _ e
  have I3 := I2.kept (t' := t + 1) k3
  have hu : (h'.push (PySem.W.kxs_mw "ValueError.__init__" a)).get? h'.objs.size = some (PySem.W.kxs_mw "ValueError.__init__" a) := Heap.get?_push_at rfl rfl
  have hun : H h'.objs.size = none := I2.hok.fresh (Nat.le_refl _)
  have I4 : Inv ⟨P, w, K, mg, base, A, N, s0, H0, PySem.W.ksEnv q scope L f (.ref cda) cc, outer, stack, ex, fnn, calm, pn, xe⟩ ((h'.objs.size, PySem.W.kxs_mw "ValueError.__init__" a) :: pins) σ H ⟨h'.push (PySem.W.kxs_mw "ValueError.__init__" a), g, d, t + 1, os⟩ := I3.pins_of fun p hp => by
    rcases List.mem_cons.mp hp with rfl | hp
    · exact ⟨hu, hun, Nat.ne_of_gt I2.lt, I2.nofs (Nat.le_refl _), fun v z => by cases z⟩
    · exact I3.pin p (List.mem_append_right _ hp)
  show wpAny _ _ (callWith pos (.ref h'.objs.size) [] (backTo pos (starEach [.Constant (.str m) j p3] (PySem.W.ksEnv q scope L f (.ref cda) cc))) []) _ _ _
  refine PySem.W.kxs_callWith (i := "ValueError.__init__") (x := a) rfl ?_
  have pa : PA ⟨P, w, K, mg, base, A, N, s0, H0, PySem.W.ksEnv q scope L f (.ref cda) cc, outer, stack, ex, fnn, calm, pn, xe⟩ [.Constant (.str m) j p3] (tCons (tC (.str m)) tNil) := pa_cons pe_str pa_nil
  refine PySem.Calls.evalArgs_plain (thn (pa.run pos _ _ σ H (fun vs H1 => H1 = H ∧ vs = [.str m]) I4 ?_) fun us s5 z => ?_)
  · exact ⟨rfl, rfl⟩
  obtain ⟨vs5, H5, I5, r5, rfl, rfl⟩ := z
  have hu5 := (I5.pin (h'.objs.size, PySem.W.kxs_mw "ValueError.__init__" a) (List.mem_append_right _ (List.mem_cons_self ..))).1
  refine ⟨hu5, ?_⟩
  obtain ⟨t5, ho5⟩ := exo_at I5.hok ha
  have X5 : K.In s5.heap := I5.kIn
  obtain ⟨h5, g5, d5, tk5, os5⟩ := s5
  have hul : us.length ≤ sizeLine := by
    rw [← Paired.length r5, sizeLine_eq]
    simp
  show wpAny _ _ (call (.ref h'.objs.size) ([] ++ us)) _ _ _
  rw [List.nil_append]
  refine mw_init hu5 (X5 _ _ lC) ho5 hul fun h6 t6 k6 ho6 => h _ ?_
  have I5' : Inv ⟨P, w, K, mg, base, A, N, s0, H0, PySem.W.ksEnv q scope L f (.ref cda) cc, outer, stack, ex, fnn, calm, pn, xe⟩ pins σ H5 ⟨h5, g5, d5, tk5, os5⟩ := I5.pins_of fun p hp => I5.pin p (by
    rcases List.mem_append.mp (show p ∈ pn ++ pins from List.mem_append_right _ hp) with z | z
    · exact List.mem_append_left _ z
    · exact List.mem_append_right _ (List.mem_cons_of_mem _ z))
  have J := I5'.write (t' := tk5) (x := a) (e := a) (o := exo a C none) (by rw [ha]; exact True.intro) (.inl rfl) k6 ⟨_, ho6⟩ (exo_ok ho6)
  have eu : upd H5 a (exo a C none) = H5 := by
    funext b
    by_cases hb : b = a
    · rw [hb, upd_same, ha]
    · rw [upd_ne hb]
  rw [eu] at J
  exact J
/-- the scope of such an __init__: its locals N, its parameters ps -/
structure SupScope (N ps : List Str) (sc : Scope) : Prop where
  kind : sc.kind = .function
  co : sc.isCoroutine = false
  gen : sc.isGenerator = false
  nd : N.Nodup
  pre : N.take ps.length = ps
  par : ∀ x ∈ ps, sc.names.lookup x = some .local
  nocell : ∀ y ∈ sc.names, y.2 ≠ .cell
  free : ∀ y ∈ sc.names, y.2 = .free → y.1 = "__class__"
  sup : sc.names.lookup ("super" : Str) = some .globalImplicit
  cls : sc.names.lookup ("__class__" : Str) = some .free
def cxS (P : Program) (w : World) (K : PySem.W.Frag) (mg : Str → Option Value) (base : Heap) (N : List Str) (qual : Str) (scope : Scope) (f cda cc : Addr) (A : Around) (outer : List Env) (s : Shared) (H : Hp) : Cx where
  prog := P
  w := w
  K := K
  mg := mg
  base := base
  A := A.deeper (PySem.W.ksEnv qual scope s.heap.objs.size f (.ref cda) cc)
  N := N
  s_0 := s
  H_0 := H
  env := PySem.W.ksEnv qual scope s.heap.objs.size f (.ref cda) cc
  outer := outer
  stack := PySem.W.ksEnv qual scope s.heap.objs.size f (.ref cda) cc :: outer
  ex := []
  calm := true
  fn := fun _ => false
  pn := []
  xe := fun _ _ => False
theorem lookup_nd {β : Type} : ∀ {l : List (Str × β)} {x : Str} {u : β}, (l.map (·.1)).Nodup → (x, u) ∈ l → l.lookup x = some u
  | [], _, _, _, h => by cases h
  | (y, v) :: l, x, u, nd, h => by
    rw [List.map_cons, List.nodup_cons] at nd
    rcases List.mem_cons.mp h with e | h2
    · cases e
      simp [List.lookup]
    · have hne : (x == y) = false := by
        simp
        rintro rfl
        exact nd.1 (List.mem_map.mpr ⟨(_, u), h2, rfl⟩)
      rw [List.lookup, hne]
      exact lookup_nd nd.2 h2
theorem lookup1 {x y : Str} {c d : Addr} (h : [(y, d)].lookup x = some c) : x = y ∧ c = d := by
  unfold List.lookup at h
  cases e : (x == y) with
  | true => rw [e] at h; exact ⟨eq_of_beq e, by cases h; rfl⟩
  | false => rw [e] at h; cases h
section
variable {P : Program} {w : World} {K : PySem.W.Frag} {mg : Str → Option Value} {base : Heap} {N ps : List Str} {qual : Str} {scope : Scope} {f cda cc : Addr} {A : Around} {outer : List Env} {s : Shared} {H : Hp} {us : List Value} {vs : List V}
theorem inv_startS {cl : Value} {cld : Option Addr} {csl : Array (Option Value)} {v0 : Option Value} {h1 : Heap} {tk : Nat} (S : SupScope N ps scope) (hd : A.handled = none) (e0 : Env0 P w K mg base A outer s H) (hl : vs.length = ps.length) (hu : us.length = ps.length) (r : Vals vs us)
    (hns : h1.Ns s.heap.objs.size (fun x => (ps.zip us).reverse.lookup x)) (k : ∀ b o, s.heap.get? b = some o → h1.get? b = some o) (lcc : K.lookup cc = some ⟨cl, cld, .cell v0, csl⟩) :
    Inv (cxS P w K mg base N qual scope f cda cc A outer s H) [] (L2.start N vs) H { s with heap := h1, toks := tk } := by
  have hpl : ps.length ≤ N.length := by have := congrArg List.length S.pre; rw [List.length_take] at this; omega
  have hcc := e0.bs _ _ (e0.mod.kin _ _ lcc)
  have noA : ∀ b : Addr, b ∉ (cxS P w K mg base N qual scope f cda cc A outer s H).ex := fun b z => absurd (show b ∈ ([] : List Addr) from z) (by simp)
  refine ⟨⟨e0.mod, S.kind, rfl, rfl, Nat.le_refl _, fun y z c h1 h2 => ?_, fun y hy => ?_, fun y c hf _ => ?_, fun _ => hd, Around.frames_deeper e0.frames, .inr ⟨rfl, rfl⟩, fun b z => absurd z (noA b), e0.bs, e0.bsz, fun b _ _ => noA b, fun b z => absurd z (noA b), e0.funs, e0.frf⟩,
    rfl, e0.bare, Un.kept k, ⟨_, hns, fun i y v h1 h2 h3 => ?_⟩, fun y c h => ?_, e0.hok.fresh (Nat.le_refl _), fun y c h => ?_, fun p hp => absurd (show p ∈ ([] : List (Addr × Obj)) from hp) (by simp), e0.hok.kept k, ?_⟩
  · rw [(lookup1 h1).1, (lookup1 h2).1]
  · have hy : scope.names.lookup y = some .cell ∨ scope.names.lookup y = some .free := hy
    rcases hy with hy | hy
    · exact absurd rfl (S.nocell _ (PySem.mem_of_lookup hy))
    · have := S.free _ (PySem.mem_of_lookup hy) rfl
      simp only at this
      subst this
      exact ⟨cc, rfl⟩
  · cases hf
  · have hi : i < vs.length := by
      unfold L2.start at h2
      by_cases hi : i < vs.length
      · exact hi
      · rw [List.getElem?_append_right (by simpa using hi), List.getElem?_replicate] at h2
        split at h2 <;> cases h2
    have ha : vs[i]? = some v := by
      unfold L2.start at h2
      rw [List.getElem?_append_left (by simpa using hi), List.getElem?_map] at h2
      cases e : vs[i]? with
      | none => rw [e] at h2; cases h2
      | some a => rw [e] at h2; cases h2; rfl
    obtain ⟨u, hu', rv⟩ := r.get ha
    have hp : ps[i]? = some y := by
      rw [← S.pre, List.getElem?_take_of_lt (by omega)]; exact h1
    have ndP : ps.Nodup := by rw [← S.pre]; exact S.nd.sublist (List.take_sublist _ _)
    refine ⟨u, rv, .inl ⟨S.par y (List.mem_of_getElem? hp), ?_⟩⟩
    refine lookup_nd ?_ (List.mem_reverse.mpr ?_)
    · rw [List.map_reverse, List.map_fst_zip (by omega)]
      exact List.pairwise_reverse.mpr (ndP.imp fun h => Ne.symm h)
    · refine List.mem_of_getElem? (i := i) ?_
      rw [List.getElem?_zip_eq_some]
      exact ⟨hp, hu'⟩
  · obtain ⟨_, rfl⟩ := lookup1 h
    exact ⟨v0, _, k _ _ hcc.1, rfl⟩
  · obtain ⟨_, rfl⟩ := lookup1 h
    exact hcc.2
  · unfold L2.start
    show _ = N.length
    rw [List.length_append, List.length_map, List.length_replicate]
    omega
end
/-- such a def as it stands behind the top -/
structure FunS (K : PySem.W.Frag) (file : Str) (C : Addr) (x qual : Str) (params : Arguments) (body : List Stmt) (scope : Scope) (f : Addr) (fd : FuncData) (cda cc : Addr) : Prop where
  ex : ∃ (kV doc pm : Value) (an : Option Addr) (ct : Value), fd = PySem.W.ksFn x qual params body scope .none kV doc pm an (.ref cda) ct cc
  si : SupI K file C f fd cda cc
  hcd : PySem.W.codeIn K (.ref cda) qual = true
section
variable {P : Program} {w : World} {K : PySem.W.Frag} {mg : Str → Option Value} {base : Heap} {N ps : List Str} {x qual file : Str} {scope : Scope} {params : Arguments} {C f cda cc : Addr} {fd : FuncData} {k : Nat} {sp : Sp} {ar : Arg} {m : Str} {j : Nat} {p0 p1 p2 p3 pos pos' : Pos} {pl : Sem Bool} {rest : List Stmt}
theorem FunS.ok (F : FunS K file C x qual params (.Expr (.Call (.Attribute (.Call (.Name "super" p0) [] [] p1) "__init__" p2) [.Constant (.str m) j p3] [] pos) pos' :: rest) scope f fd cda cc) (S : SupScope N ps scope)
    (hp : (params.posonlyargs ++ params.args).head? = some ar) (hN : N[0]? = some ar.arg) (ha0 : ps[0]? = some ar.arg) (hfile : ((P.main.file : Str) == file) = true) (htop : (P.main.scope.names.lookup ("super" : Str)).isSome = false) (hg : mg "super" = none)
    (he : ∀ L, eval (.Call (.Attribute (.Call (.Name "super" p0) [] [] p1) "__init__" p2) [.Constant (.str m) j p3] [] pos) (PySem.W.ksEnv qual scope L f (.ref cda) cc) = (do
      let ov ← attributeBase (.Call (.Name "super" p0) [] [] p1) "__init__" (PySem.W.ksEnv qual scope L f (.ref cda) cc) (eval (.Call (.Name "super" p0) [] [] p1) (PySem.W.ksEnv qual scope L f (.ref cda) cc))
      standAt p2.atName
      let (g, first) ← holding [ov] (getMethod ov "__init__" pl)
      callWith pos g first (backTo pos (starEach [.Constant (.str m) j p3] (PySem.W.ksEnv qual scope L f (.ref cda) cc))) []))
    (len : ∀ vs H Q E, sp vs H Q E → vs.length = ps.length)
    (hbody : ∀ (A : Around) (outer : List Env) (s : Shared) (H : Hp) (vs : List V) (Q : VK) (E : XK), sp vs H Q E → (∃ a ws, vs = .ref a :: ws ∧ H a = some (exo a C none)) ∧
      ∃ t, PSs (cxS P w K mg base N qual scope f cda cc A outer s H) rest t ∧ t { nx := fun _ H' => Q .non H', rt := Q } (L2.start N vs) H) :
    FnOk P w K mg base CX0 (k + 1) f fd ps sp := by
  refine ⟨len, fun A outer s H args us vs Q E hr e0 hb r hsp => ?_⟩
  have hl := len _ _ _ _ hsp
  have hu : us.length = ps.length := by rw [← hl, Paired.length r]
  obtain ⟨kV, doc, pm, an, ct, rfl⟩ := F.ex
  obtain ⟨oc, od, osl, lf⟩ := F.si.fn
  obtain ⟨cl, cld, csl, lcc⟩ := F.si.cell
  have KX : K.In s.heap := e0.mod.kin.keeps fun b o e => (e0.bs b o e).1
  have lim : s.heap.NoLimit := e0.mod.nolimit.keeps fun b o e => (e0.bs b o e).1
  obtain ⟨⟨a, ws, rfl, ha⟩, t, ht, hq⟩ := hbody A outer s H vs Q E hsp
  refine PySem.ks_codeAny_call_defAt hr.depth (KX _ _ lf) rfl lim (PySem.W.codeRec_of KX F.hcd) rfl hb S.nocell (fun y hy => S.par _ (List.of_mem_zip hy).1) (fun h1 hns hk1 => ?_) S.co S.gen S.kind
  have I : Inv (cxS P w K mg base N qual scope f cda cc A outer s H) [] (L2.start N (.ref a :: ws)) H ⟨h1, s.gens, s.drawn, s.toks + (ps.zip us).length, s.os⟩ := inv_startS S hr.hd e0 hl hu r hns hk1 lcc
  refine PySem.ks_wpAt_execs_cons (PySem.ks_wpAt_Expr_any (hi := I.quiet) (super_init (he _) I F.si hp hfile htop S.sup S.cls (S.par _ (List.mem_of_getElem? ha0)) S.kind hg hN rfl ha fun s2 I2 => ?_))
  refine wpAt_of_wpAny (wpAny_mono (ht.run [] s2 (L2.start N (.ref a :: ws)) H _ I2 hq) (fun fl s' hs => ?_) fun e s' hs => False.elim hs)
  have fin : ∀ {σ' : L2.St} {H' : Hp} {v : V} {u : Value}, Inv (cxS P w K mg base N qual scope f cda cc A outer s H) [] σ' H' s' → RelV v u → Q v H' → CE outer P w H s Q u s' :=
    fun {σ' H' v u} J rv q => ⟨v, H', J.os, J.bare, J.base, J.hok, rv, q⟩
  cases fl with
  | ret u =>
    obtain ⟨v, σ', H', J, rv, q⟩ := hs
    exact fin J rv q
  | next =>
    obtain ⟨σ', H', J, q⟩ := hs
    exact fin (v := V.non) (u := Value.none) J rfl q
  | brk =>
    obtain ⟨_, _, _, q⟩ := hs
    exact False.elim q
  | cont =>
    obtain ⟨_, _, _, q⟩ := hs
    exact False.elim q
end
end PB
namespace PB
open PySem PySem.Spec PyProof.Rows L2
def oeB (K : PySem.W.Frag) (C : Addr) : Bool := match K.lookup C with
  | some ⟨.type "type", _, .cls cd, sl⟩ => (match cd.mro, sl.toList with
    | .ref C' :: bm, [_, _, _, _, some (.builtin n), _] => C' == C && (n == "ValueError.__new__" && (!cd.hasDel && (cd.hasDict && PySem.HandSPX.refsVE bm)))
    | _, _ => false)
  | _ => false
theorem oe_of {K : PySem.W.Frag} {C : Addr} (q : oeB K C = true) : ∃ nm qn N bs bm sn sub ab col dd k0 k1 k2 k3 k5, K.lookup C = some (excClassObj nm qn C N bs bm true sn sub ab col dd k0 k1 k2 k3 k5 "ValueError.__new__") ∧ PySem.HandSPX.refsVE bm = true := by
  unfold oeB at q
  split at q
  · rename_i dd cd sl ho
    split at q
    · rename_i C' bm k0 k1 k2 k3 n k5 hm hs
      simp only [Bool.and_eq_true, beq_iff_eq, Bool.not_eq_true'] at q
      obtain ⟨rfl, rfl, hdel, hdc, hr⟩ := q
      obtain ⟨nm, bs, mro, ns, qn, hd, sn, sub, ab, col, del⟩ := cd
      dsimp only at hm hdel hdc
      subst hm hdel hdc
      have hsl : sl = #[k0, k1, k2, k3, some (.builtin "ValueError.__new__"), k5] := by
        obtain ⟨l⟩ := sl
        simp only at hs
        rw [hs]
      subst hsl
      exact ⟨nm, qn, ns, bs, bm, sn, sub, ab, col, dd, k0, k1, k2, k3, k5, ho, hr⟩
    · cases q
  · cases q
/-- class c, its own __init__ keeps the fields fs -/
def supB (c : Str) (fs : List Str) (file : Str) (K : PySem.W.Frag) : Bool :=
  oeB K (He.ga K c) && (He.eqO (PySem.W.findIn K (.ref (He.ga K c)) "__setattr__") (some (some (.builtin "object.__setattr__"))) && (PySem.W.subIn K (.ref (He.ga K c)) (.type "BaseException") == some true && (PySem.W.typeIn K (.ref (He.ga K c)) == some (.type "type") && (PySem.W.keepIn K (.ref (He.ga K c)) &&
  (He.eqO (PySem.W.nsIn K PySem.cStatics "thirdparty.any") (some none) && (He.eqO (PySem.W.ks_superIn K (He.ga K c) (He.ga K c) "__init__") (some (some (.builtin "ValueError.__init__"))) && (PySem.W.subIn K (.ref (He.ga K c)) (.type "ValueError") == some true && (PySem.W.mroIn K (He.ga K c) (.ref (He.ga K c)) == some true &&
  (He.eqO (PySem.W.findIn K (.ref (He.ga K c)) "__init__") (some (some (.ref (He.ma K (He.ga K c) "__init__")))) && (PySem.W.typeIn K (.ref (He.ma K (He.ga K c) "__init__")) == some (.type "function") && ((fs.all fun f => He.eqO (PySem.W.findIn K (.ref (He.ga K c)) f) (some none)) &&
  (match K.lookup (He.ma K (He.ga K c) "__init__") with
    | some ⟨_, _, .func fd, _⟩ => (match fd.code with
        | .ref cda => (match K.lookup cda with
            | some ⟨_, _, .fields vs, _⟩ => (match (vs[2]? : Option Value) with
                | some (.str x _) => x == file
                | _ => false)
            | _ => false)
        | _ => false) && ((match fd.defaults with
        | .none => true
        | _ => false) && (match fd.closure with
        | [(_, cc)] => (match K.lookup cc with
            | some ⟨_, _, .cell (some (.ref D)), _⟩ => D == He.ga K c
            | _ => false)
        | _ => false))
    | _ => false))))))))))))
/-- what is told of it -/
structure ExF (K : PySem.W.Frag) (file c : Str) (fs : List Str) (qual : Str) (params : Arguments) (body : List Stmt) (scope : Scope) : Prop where
  fn : ∃ fd cda cc, FunS K file (He.ga K c) "__init__" qual params body scope (He.ma K (He.ga K c) "__init__") fd cda cc
  ini : PySem.W.findIn K (.ref (He.ga K c)) "__init__" = some (some (.ref (He.ma K (He.ga K c) "__init__")))
  ty : PySem.W.typeIn K (.ref (He.ma K (He.ga K c) "__init__")) = some (.type "function")
  no : ∀ f ∈ fs, PySem.W.findIn K (.ref (He.ga K c)) f = some none
theorem exF_of {K : PySem.W.Frag} {c : Str} {fs : List Str} {file qual : Str} {params : Arguments} {body : List Stmt} {scope : Scope} (h : supB c fs file K = true)
    (e : ∃ (fd : FuncData) (cc : Addr) (dV kV doc pm : Value) (an : Option Addr) (cdv ct oc : Value) (od : Option Addr) (osl : Array (Option Value)),
      fd = ⟨"__init__", qual, params, .stmts body, scope, mainGlobals, [(("__class__" : Str), cc)], dV, kV, doc, pm, an, cdv, ct, builtinsNs⟩ ∧ K.lookup (He.ma K (He.ga K c) "__init__") = some ⟨oc, od, .func fd, osl⟩ ∧ PySem.W.codeIn K cdv qual = true) :
    ExF K file c fs qual params body scope := by
  obtain ⟨fd, cc, dV, kV, doc, pm, an, cdv, ct, oc, od, osl, rfl, lk, hcd⟩ := e
  unfold supB at h
  rw [lk] at h
  simp only [Bool.and_eq_true, beq_iff_eq] at h
  obtain ⟨h1, h2, h3, h4, h5, h6, h7, h8, h9, h10, h11, h12, h13, h14d, h14⟩ := h
  have hdv : dV = .none := by
    split at h14d
    · first | assumption | rfl
    · cases h14d
  subst hdv
  split at h13
  · rename_i cda
    split at h13
    · rename_i cl cd vs sl lc
      split at h13
      · rename_i x tf hv
        rw [beq_iff_eq] at h13
        subst h13
        split at h14
        · rename_i y z ycl ycd yD ysl lcc
          rw [beq_iff_eq] at h14
          subst h14
          refine ⟨⟨_, cda, cc, ⟨⟨kV, doc, pm, an, ct, rfl⟩, ⟨⟨oe_of h1, He.eqO_ok h2, h3, h4, h5⟩, He.eqO_ok h6, He.eqO_ok h7, h8, h9, ⟨oc, od, osl, lk⟩, ⟨cl, cd, vs, sl, tf, lc, hv⟩, ⟨ycl, ycd, ysl, lcc⟩⟩, hcd⟩⟩, He.eqO_ok h10, h11, fun f hf => He.eqO_ok (List.all_eq_true.mp h12 f hf)⟩
        · cases h14
      · cases h13
    · cases h13
  · cases h13
/-- the main file of P -/
structure PFile (P R : Program) : Prop where
  file : ((P.main.file : Str) == R.main.file) = true
  top : (P.main.scope.names.lookup ("super" : Str)).isSome = false
/-- C(x1, .., xn): what the __init__ does -/
def spXI (C : Addr) (fs : List Str) : Sp := fun vs H Q _ => ∃ a ws, vs = .ref a :: ws ∧ ws.length = fs.length ∧ H a = some (exo a C none) ∧ ∀ d H', H d = none → d ≠ a → H' a = some (exo a C (some d)) → H' d = some (exd d (fs.zip ws).reverse) → (∀ b, b ≠ a → b ≠ d → H' b = H b) → Q .non H'
theorem spXI_len {C : Addr} {fs : List Str} : ∀ vs H Q E, spXI C fs vs H Q E → vs.length = ("self" :: fs : List Str).length := fun vs H Q E ⟨a, ws, e, l, _⟩ => by rw [e]; simp [l]
section
variable {K : PySem.W.Frag} {a C d : Addr} {f : Str} {i : Nat} {v : V} {fs : List (Str × V)} {D : Ends} {σ : L2.St} {H : Hp}
theorem xo_new (T : OexC K C) (hno : PySem.W.findIn K (.ref C) f = some none) (es : σ[0]? = some (some (.ref a))) (ev : σ[i]? = some (some v)) (ha : H a = some (exo a C none)) (h : ∀ d, H d = none → d ≠ a → D.nx σ (upd (upd H d (exd d [(f, v)])) a (exo a C (some d)))) :
    tOst K f (tVar 0) (tVar i) D σ H := ⟨v, ev, .ref a, es, a, C, rfl, T, hno, .inl ⟨ha, h⟩⟩
end
/-- how an own error with fields is made -/
def OkX (P : Program) (w : World) (K : PySem.W.Frag) (mg : Str → Option Value) (base : Heap) (k : Nat) (c : Str) (fs : List Str) : Prop :=
  ∃ fd, FnOk P w K mg base CX0 k (He.ma K (He.ga K c) "__init__") fd ("self" :: fs) (spXI (He.ga K c) fs) ∧ OexC K (He.ga K c) ∧ PySem.W.findIn K (.ref (He.ga K c)) "__init__" = some (some (.ref (He.ma K (He.ga K c) "__init__"))) ∧
    PySem.W.typeIn K (.ref (He.ma K (He.ga K c) "__init__")) = some (.type "function") ∧ mg c = some (.ref (He.ga K c)) ∧ Binds K fd ("self" :: fs) []
section
variable {P : Program} {w : World} {K : PySem.W.Frag} {mg : Str → Option Value} {base : Heap} {c file qual m f1 f2 f3 : Str} {params : Arguments} {scope : Scope} {R : Program} {ar : Arg} {j : Nat} {pl : Addr → Addr → Addr → Sem Bool} {p0 p1 p2 p3 pos pos' q1 q2 q3 q4 r1 r2 r3 r4 t1 t2 t3 t4 : Pos}
abbrev xst (f : Str) (q1 q2 q3 q4 : Pos) : Stmt := .Assign [.Attribute (.Name "self" q1) f q2] (.Name f q3) q4
abbrev xsup (m : Str) (j : Nat) (p0 p1 p2 p3 pos pos' : Pos) : Stmt := .Expr (.Call (.Attribute (.Call (.Name "super" p0) [] [] p1) "__init__" p2) [.Constant (.str m) j p3] [] pos) pos'
theorem okX1 (F : ExF K R.main.file c [f1] qual params (xsup m j p0 p1 p2 p3 pos pos' :: [xst f1 q1 q2 q3 q4]) scope) (hP : PFile P R) (S : SupScope ["self", f1] ["self", f1] scope) (gc : mg c = some (.ref (He.ga K c))) (hg : mg "super" = none)
    (hp : (params.posonlyargs ++ params.args).head? = some ar) (har : ar.arg = "self")
    (he : ∀ L f cda cc, eval (.Call (.Attribute (.Call (.Name "super" p0) [] [] p1) "__init__" p2) [.Constant (.str m) j p3] [] pos) (PySem.W.ksEnv qual scope L f (.ref cda) cc) = (do
      let ov ← attributeBase (.Call (.Name "super" p0) [] [] p1) "__init__" (PySem.W.ksEnv qual scope L f (.ref cda) cc) (eval (.Call (.Name "super" p0) [] [] p1) (PySem.W.ksEnv qual scope L f (.ref cda) cc))
      standAt p2.atName
      let (g, first) ← holding [ov] (getMethod ov "__init__" (pl f cda cc))
      callWith pos g first (backTo pos (starEach [.Constant (.str m) j p3] (PySem.W.ksEnv qual scope L f (.ref cda) cc))) []))
    (hb : ∀ (kV doc pm : Value) (an : Option Addr) (cda : Addr) (ct : Value) (cc : Addr) (us : List Value), us.length = 2 → bindArgs (PySem.W.ksFn "__init__" qual params (xsup m j p0 p1 p2 p3 pos pos' :: [xst f1 q1 q2 q3 q4]) scope .none kV doc pm an (.ref cda) ct cc) ⟨us, []⟩ = pure ((["self", f1] : List Str).zip us))
    (d1 : (f1 == ("__debug__" : Str)) = false) (e1 : (f1 == ("__classdict__" : Str)) = false) : OkX P w K mg base 2 c [f1] := by
  obtain ⟨fd, cda, cc, FS⟩ := F.fn
  have ex := FS.ex
  refine ⟨fd, FS.ok (N := ["self", f1]) S hp (by rw [har]; rfl) (by rw [har]; rfl) hP.file hP.top hg (fun L => he L _ cda cc) spXI_len (fun A outer s H vs Q E h => ?_), FS.si.ox, F.ini, F.ty, gc, ?_⟩
  · obtain ⟨a, ws, rfl, hl, ha, h⟩ := h
    refine ⟨⟨a, ws, rfl, ha⟩, _, pss_cons (ps_ost (pe_var (i := 0) rfl (.inl (S.par _ (by simp)))) (pe_var (i := 1) rfl (.inl (S.par _ (by simp))) d1 e1)) pss_nil, ?_⟩
    obtain ⟨x, rfl⟩ : ∃ x, ws = [x] := by
      cases ws with
      | nil => cases hl
      | cons x l => cases l with
        | nil => exact ⟨x, rfl⟩
        | cons _ _ => simp at hl
    refine xo_new (a := a) (v := x) FS.si.ox (F.no _ (by simp)) rfl rfl ha fun d hd hda => ?_
    refine h d _ hd hda upd_same ?_ fun b hb hbd => ?_
    · rw [upd_ne hda, upd_same]; rfl
    · rw [upd_ne hb, upd_ne hbd]
  · obtain ⟨kV, doc, pm, an, ct, rfl⟩ := ex
    exact .all fun us hl => hb kV doc pm an cda ct cc us hl
end
end PB
namespace PB
open PySem PySem.Spec PyProof.Rows L2
/-- what they wish of an error of the body, one after the other -/
def wManyA (K : PySem.W.Frag) (Wout : WX) (D : Ends) : List (Value × Nat × (Addr → Value → Option Addr → TS)) → WX
  | [] => Wout
  | (c, i, ts) :: r => fun cls d σ H => ∃ b, PySem.W.exmOne K cls c = some b ∧
      (b = true → ∀ a, H a = none → ts a cls d { nx := fun σ' H' => D.nx (σ'.set i none) H', rt := D.rt, bk := fun σ' H' => D.bk (σ'.set i none) H', ct := fun σ' H' => D.ct (σ'.set i none) H' } (σ.set i (some (.ref a))) H) ∧
      (b = false → wManyA K Wout D r cls d σ H)
inductive HdA (X : Cx) : List ExceptHandler → List (Value × Nat × (Addr → Value → Option Addr → TS)) → Prop
  | nil : HdA X [] []
  | cons {x n : Str} {c : Value} {i : Nat} {ts : Addr → Value → Option Addr → TS} {b₀ : Stmt} {suite : List Stmt} {np pos' : Pos} {hds : List ExceptHandler} {l : List (Value × Nat × (Addr → Value → Option Addr → TS))} (hi : X.N[i]? = some n) (hln : X.env.kindOf n = some .local) (hc : Names X x c)
      (hsu : ∀ (a : Addr) (oe : Obj) (cls : Value) (d : Option Addr) (pn : List (Addr × Obj)), Zc cls d oe → (∃ vs, oe.data = .fields vs) → PSs (X.suite a ((a, oe) :: pn)) (b₀ :: suite) (ts a cls d)) (r : HdA X hds l) :
      HdA X (.ExceptHandler (some (.Name x np)) (some n) (b₀ :: suite) pos' :: hds) ((c, i, ts) :: l)
section
variable {X : Cx} {body : List Stmt} {h₀ : ExceptHandler} {hds : List ExceptHandler} {l : List (Value × Nat × (Addr → Value → Option Addr → TS))} {pos : Pos} {tb : WX → TS} {Wout : WX}
theorem ps_try_manyAs (hs : X.stack = X.env :: X.outer) (hf : X.env.frame = some X.env.locals) (hN : X.N.Nodup) (tk : Takes X Wout)
    (hb : ∀ (W : WX) (pn : List (Addr × Obj)) (xe : Value → Shared → Prop), Takes (X.tr pn xe) W → PassesOwn (model X.prog X.w) X.A X.env xe → PSs (X.tr pn xe) body (tb W))
    (hh : HdA X (h₀ :: hds) l) : PS X (.Try body (h₀ :: hds) [] [] pos) (fun D σ H => tb (wManyA X.K Wout D l) D σ H) := by
  refine ⟨fun pins s σ H D I h => ?_⟩
  have ok := I.ok
  have hfr : X.A.frames = some (X.env :: X.outer) := by rw [ok.frames, hs]
  refine wpAny_Try_except ?_
  refine wpAny_mono ((hb (wManyA X.K Wout D l) (X.pn ++ pins) (fun e s₁ => wpAny (model X.prog X.w) X.A (noteFrame e X.env) (fun _ s₂ => wpAny (model X.prog X.w) X.A (setFlight e none) (fun _ s₃ =>
    wpAny (model X.prog X.w) X.A (handleBy e X.env (h₀ :: hds)) (SP X pins D) X.xe s₃) X.xe s₂) X.xe s₁) (fun u s' xx => ?_) PassesOwn.looking).run [] s σ H D (I.toTry _) h) (fun f s1 hsp => ?_) (fun e s1 he => he)
  · obtain ⟨a, B, sI, pins', σ', H', cls, d, rfl, J', nb, up, sky, na, os, ag, w⟩ := xx
    have J : Inv X pins σ' H' sI := J'.ofTry ok
    have sky' : Sky B (X.env :: X.outer) a (Zc cls d) X.env.locals s'.heap := by rw [← hs]; exact sky
    show wpAny (model X.prog X.w) X.A (noteFrame (.ref a) X.env) _ _ _
    refine Sky.land Zc.steady hfr hf sky' fun h3 fl3 up3 => ?_
    have J3 : Inv X pins σ' H' { s' with heap := h3 } := J.landed nb fl3.1 (up.trans up3) os ag
    obtain ⟨oe3, vs3, he3, hz3, hd3⟩ := fl3.there
    have notFr : ∀ {h : Heap} {o : Obj} {vs : Array Value}, h.FunFrames B (X.env :: X.outer) → h.get? a = some o → o.data = .fields vs → a ∉ frs (X.env :: X.outer) := fun {h o vs} ff e dd hm => by
      obtain ⟨_, o', e', hnf⟩ := ff.mem hm
      rw [e] at e'; cases e'
      exact hnf _ dd
    have nfr := notFr fl3.2.2.1 he3 hd3
    have nL : a ≠ X.env.locals := fun z => nfr (List.mem_filterMap.mpr ⟨X.env, List.mem_cons_self, by rw [hf, z]⟩)
    have nF : a ∉ X.fs := fun hm => by
      obtain ⟨e, he, q⟩ := List.mem_filterMap.mp hm
      exact nfr (List.mem_filterMap.mpr ⟨e, List.mem_cons_of_mem _ he, q⟩)
    have S3 := J3.suite he3 hd3 na nL nF
    have go : ∀ {hds' : List ExceptHandler} {l' : List (Value × Nat × (Addr → Value → Option Addr → TS))}, HdA X hds' l' → wManyA X.K Wout D l' cls d σ' H' →
        wpAny (model X.prog X.w) X.A (handleBy (.ref a) X.env hds') (SP X pins D) X.xe { s' with heap := h3 } := by
      intro hds' l' hk
      induction hk with
      | nil =>
        intro w
        refine wpAny_handleBy_nil ?_
        obtain ⟨k1, k2, k3, oe, vs, T, oT, ts', he, hz, hd, h1, hr⟩ := id fl3
        unfold PySem.passOn
        refine wpAny_bind (wpAny_field he hd h1 ?_)
        rw [if_neg (show ¬ ((Value.ref T == Value.none) = true) from by simp)]
        have fin : wpAny (model X.prog X.w) X.A (setFlight (.ref a) X.env.frame) (fun _ s4 => wpAny (model X.prog X.w) X.A (throw (.ref a) : Sem Flow) (SP X pins D) X.xe s4) X.xe { s' with heap := h3 } := by
          rw [hf]
          refine HandSPX.setFlight_upZ fl3 fun h4 hh4 up4 => wpAny_throw (tk _ _ ?_)
          exact ⟨a, B, sI, pins, σ', H', cls, d, rfl, J, nb, (up.trans up3).trans up4, .inr (.inr (by rw [hs]; exact hh4)), na, os, ag, w⟩
        first
          | exact wpAny_bind (wpAny_pure (wpAny_bind fin))
          | exact wpAny_bind fin
      | @cons x n c i ts b₀ suite np pos' hds2 l2 hi hln hc hsu r ih =>
        intro w
        obtain ⟨b, hb1, hyes, hno⟩ := w
        have hloc : Loc X.env.scope n := .inl hln
        refine wpAny_handleBy_cons (codeAny_handlers_test ?_) (by intro q; cases q)
        have LT : PySem.W.Looks (model X.prog X.w) h3 (typeOf (.ref a)) cls := fun A Q E s k q => wpAny_typeOf_ref (k _ _ he3) (by rw [hz3.1]; exact q)
        have LM := PySem.W.exm_one (M := model X.prog X.w) (J3.kIn) LT hb1
        have test : ∀ {Q : Value → Shared → Prop} {E : Value → Shared → Prop}, Q c { s' with heap := h3 } → wpAny (model X.prog X.w) (X.A.mark (some (.ref a))) (eval (.Name x np) X.env) Q E { s' with heap := h3 } := fun {Q E} q => by
          obtain ⟨hg, hdbg, hm | ⟨hm, hv, hnn⟩⟩ := hc
          · exact ld_glob (X := X.suite a ((a, oe3) :: (X.pn ++ pins))) S3 hg hm q hdbg
          · exact ld_blt (X := X.suite a ((a, oe3) :: (X.pn ++ pins))) S3 hg hm hv q hnn hdbg
        refine test (LM.here ?_)
        cases b with
        | true =>
          refine codeAny_handlers_suite_as ?_
          refine HandSPX.lands_againZ fl3 fun h4 fl4 up4 => ?_
          have J4 : Inv X pins σ' H' { s' with heap := h4 } := J.landed nb fl4.1 ((up.trans up3).trans up4) os ag
          obtain ⟨oe4, vs4, he4, hz4, hd4⟩ := fl4.there
          have S4 := J4.suite he4 hd4 na nL nF
          refine store_ok (X := X.suite a ((a, oe4) :: (X.pn ++ pins))) (v := .ref a) S4 hN hi hloc rfl (fun s5 S5 => ?_) (.inr hln)
          refine wpAny_mono ((hsu a oe4 cls d (X.pn ++ pins) hz4 ⟨_, hd4⟩).run [] s5 _ H' _ S5 (hyes rfl a na)) (fun f s6 hsp => ?_) (fun _ _ z => False.elim z)
          have end_ : ∀ {σ6 : L2.St} {H6 : Hp} {Q : Shared → Prop}, Inv (X.suite a ((a, oe4) :: (X.pn ++ pins))) [] σ6 H6 s6 → (∀ s7, Inv X pins (σ6.set i none) H6 s7 → Q s7) →
              wpAny (model X.prog X.w) X.A (do bindName X.env n .none; unbindBehindTheSuite X.env n pos') (fun _ s7 => Q s7) X.xe s6 := fun {σ6 H6 Q} S6 hq => gone_ok (S6.unsuite ok) hN hi hln hq
          cases f with
          | next =>
            obtain ⟨σ6, H6, S6, q6⟩ := hsp
            exact end_ S6 fun s7 J7 => ⟨_, _, J7, q6⟩
          | brk =>
            obtain ⟨σ6, H6, S6, q6⟩ := hsp
            exact end_ S6 fun s7 J7 => ⟨_, _, J7, q6⟩
          | cont =>
            obtain ⟨σ6, H6, S6, q6⟩ := hsp
            exact end_ S6 fun s7 J7 => ⟨_, _, J7, q6⟩
          | ret u =>
            obtain ⟨v6, σ6, H6, S6, r6, q6⟩ := hsp
            exact end_ S6 fun s7 J7 => ⟨_, _, _, J7, r6, q6⟩
        | false =>
          show wpAny _ X.A (handleBy (.ref a) X.env hds2) _ _ _
          exact ih (hno rfl)
    exact go hh w
  · cases f with
    | next =>
      obtain ⟨σ', H', J', q⟩ := hsp
      exact wpAny_execs_nil ⟨σ', H', J'.ofTry ok, q⟩
    | brk =>
      obtain ⟨σ', H', J', q⟩ := hsp
      exact ⟨σ', H', J'.ofTry ok, q⟩
    | cont =>
      obtain ⟨σ', H', J', q⟩ := hsp
      exact ⟨σ', H', J'.ofTry ok, q⟩
    | ret u =>
      obtain ⟨v, σ', H', J', r, q⟩ := hsp
      exact ⟨v, σ', H', J'.ofTry ok, r, q⟩
end
end PB
namespace PB
open PySem PySem.Spec PyProof.Rows L2
end PB
namespace DL
open PySem PySem.Spec PyProof.Rows L2 PB
theorem zip_rev {α β : Type} : ∀ {l : List α} {m : List β}, l.length = m.length → l.reverse.zip m.reverse = (l.zip m).reverse
  | [], m, h => by
    rw [List.length_nil] at h
    rw [List.length_eq_zero_iff.mp h.symm]
    rfl
  | x :: l, [], h => by cases h
  | x :: l, y :: m, h => by
    have h : l.length = m.length := by simpa using h
    rw [List.reverse_cons, List.reverse_cons, List.zip_append (by simp [h]), zip_rev h, show (x :: l).zip (y :: m) = (x, y) :: l.zip m from rfl, List.reverse_cons]
    rfl
def zArgs : List Arg → Option (List D)
  | [] => some []
  | .z d :: as => (zArgs as).map fun ds => d :: ds
  | .s _ :: _ => none
def sRaiseF (c : Str) (fs : List Str) (os : List Opd) : WS := fun E ρ => wArgs os ρ (fun as ρ' => onSome (zArgs as) fun ds => ds.length = fs.length ∧ fs.length ≤ 900 ∧ E.xx (.fld c fs.reverse ds.reverse) ρ') E.xx
section
variable {B : Bs} {A : Addr → Prop} {H : Hp}
theorem RpA.app0 : ∀ {ds es : List D} {vs ws : List V}, RpA B A H ds vs [] → RpA B A H es ws [] → RpA B A H (ds ++ es) (vs ++ ws) []
  | [], _, vs, _, h, h2 => by
    rw [RpA] at h
    obtain ⟨rfl, _⟩ := h
    exact h2
  | d :: ds, es, vs, ws, h, h2 => by
    rw [RpA] at h
    obtain ⟨v, vr, g, k, rfl, e, p, q⟩ := h
    obtain ⟨rfl, rfl⟩ := List.append_eq_nil_iff.mp e.symm
    rw [List.cons_append, List.cons_append, RpA]
    exact ⟨v, vr ++ ws, [], [], rfl, rfl, p, RpA.app0 q h2⟩
theorem RpA.rev0 : ∀ {ds : List D} {vs : List V}, RpA B A H ds vs [] → RpA B A H ds.reverse vs.reverse []
  | [], vs, h => by
    rw [RpA] at h
    obtain ⟨rfl, _⟩ := h
    rw [List.reverse_nil, List.reverse_nil, RpA]
    exact ⟨rfl, rfl⟩
  | d :: ds, vs, h => by
    rw [RpA] at h
    obtain ⟨v, vr, g, k, rfl, e, p, q⟩ := h
    obtain ⟨rfl, rfl⟩ := List.append_eq_nil_iff.mp e.symm
    rw [List.reverse_cons, List.reverse_cons]
    refine RpA.app0 (RpA.rev0 q) ?_
    rw [RpA]
    exact ⟨v, [], [], [], rfl, rfl, p, by rw [RpA]; exact ⟨rfl, rfl⟩⟩
theorem RpA.get0 : ∀ {ds : List D} {vs : List V} {ns : List Str} {f : Str} {x : D}, RpA B A H ds vs [] → ns.length = ds.length → (ns.zip ds).lookup f = some x → ∃ v, (ns.zip vs).lookup f = some v ∧ Rp B A H x v []
  | [], _, ns, _, _, _, _, h => by rw [List.zip_nil_right] at h; cases h
  | d :: ds, vs, [], _, _, _, hl, _ => by cases hl
  | d :: ds, vs, n :: ns, f, x, r, hl, h => by
    rw [RpA] at r
    obtain ⟨v, vr, g, k, rfl, e, p, q⟩ := r
    obtain ⟨rfl, rfl⟩ := List.append_eq_nil_iff.mp e.symm
    rw [List.zip_cons_cons, List.lookup_cons] at h ⊢
    cases hf : (f == n) with
    | true =>
      rw [hf] at h
      cases h
      exact ⟨v, rfl, p⟩
    | false =>
      rw [hf] at h
      exact RpA.get0 q (by simpa using hl) h
end
section
variable {B : Bs} {X : Cx} {pr : Nat → Option V} {W : WX} {c : Str} {fs : List Str} {k : Nat} {p pos pos' : Pos} {e : Expr} {es : List Expr} {os : List Opd}
theorem zArgs_r {A : Addr → Prop} {H : Hp} {σ : L2.St} : ∀ {as : List Arg} {ds : List D} {vs : List V}, zArgs as = some ds → ArgsR B A H σ as vs → RpA B A H ds vs []
  | [], ds, vs, h, r => by
    cases h
    rw [RpA]
    exact ⟨r, rfl⟩
  | .z d :: as, ds, vs, h, r => by
    obtain ⟨ds', h', rfl⟩ := Option.map_eq_some_iff.mp h
    obtain ⟨v, vr, rfl, r1, r2⟩ := r
    rw [RpA]
    exact ⟨v, vr, [], [], rfl, rfl, r1, zArgs_r h' r2⟩
  | .s _ :: _, _, _, h, _ => by cases h
theorem ds_raiseF (hc : X.calm = true) (tk : Takes X W) (O : OkX X.prog X.w X.K X.mg X.base k c fs) (hr : Room (k + 1) X.A) (ha : DOs B X pr W (e :: es) os) (hg : Gl X c := by rfl) (hK : X.K = B.K := by rfl) (hdb : (c == ("__debug__" : Str)) = false := by decide)
    (he : starEach (e :: es) X.env = (false, eval e X.env) :: starEach es X.env := by rfl) (hpl : (backTo pos (starEach es X.env)).any (·.1) = false := by rfl) :
    DS B X pr W (.Raise (some (.Call (.Name c p) (e :: es) [] pos)) none pos') (sRaiseF c fs os) := by
  obtain ⟨fd, F1, T, iC, tI, gC, hb⟩ := O
  refine psW (ps_raise hc tk (pmk_oex (dvs := []) (ds := []) T iC tI F1 hr hb .nil pass0 hg gC ha hdb he hpl)) fun D σ H ⟨A, F, ρ, Ed, en, h, k⟩ => ?_
  refine lift_args os en h k.xx fun as ρ' hq A' F' H' vs st en' ar => ?_
  obtain ⟨ds, hz, hl, h9, hx⟩ := onSome_iff.mp hq
  have oval := zArgs_r hz ar
  have hvl : vs.length = fs.length := (RpA.len1 ds vs [] oval).trans hl
  refine ⟨by omega, fun a ha => ⟨a, vs, by rw [List.append_nil], hvl, upd_same, fun d H2 hd hda e1 e2 e3 => ⟨rfl, d, _, e1, e2, ?_, ?_⟩⟩⟩
  · rw [upd_ne hda] at hd
    exact hd
  rw [upd_ne hda] at hd
  have hG : upd (del H2 a) d (.xd (fs.zip vs).reverse) = upd H' d (.xd (fs.zip vs).reverse) := by
    funext b
    by_cases hbd : b = d
    · rw [hbd, upd_same, upd_same]
    · rw [upd_ne hbd, upd_ne hbd]
      by_cases hba : b = a
      · rw [hba, del_same, ha]
      · rw [del_ne hba, e3 b hba hbd, upd_ne hba]
  rw [hG]
  have g : Grow A' H' A' (upd H' d (.xd (fs.zip vs).reverse)) [] := .tup (Keep.new hd)
  refine k.xx _ ρ' hx σ A' F' _ _ _ ?_ (en'.grow g (by simp)) ⟨by rw [hK], d, vs.reverse, rfl, ?_, ?_, by rw [List.length_reverse, List.length_reverse, hl], fun z => en'.al d z hd⟩
  · exact Step.trans en.al en.fa st ⟨(Keep.new hd : Keep [] H' _).same, fun b hb => .inl hb, fun b hb => .inl hb, fun b hb _ => hb⟩
  · rw [upd_same, zip_rev hvl.symm]
  · exact RpA.rev0 (RpA.stay g.stays ds vs [] (by simp) oval)
end
end DL
namespace DL
open PySem PySem.Spec PyProof.Rows L2 PB
def XCF (B : Bs) (x : DX) (cls : Value) (d : Option Addr) : Prop := XC B x cls d ∧ match x with
  | .fld _ _ _ => ∃ b, d = some b
  | _ => True
/-- class, classes that may come, slot, suite -/
abbrev Hd := Str × List Str × Nat × (Addr → Value → Option Addr → DX → WS)
def hMany (B : Bs) (E : DEnds) : List Hd → DX → Rho → Prop
  | [], x, ρ' => E.xx x ρ'
  | (c, cs, i, v) :: r, x, ρ' => onSome (mOwn cs c x) fun b => if b = true then ∀ a cls d, XCF B x cls d → v a cls d x { noX E with nx := fun ρ2 => E.nx (ρ2.set i none), bk := fun ρ2 => E.bk (ρ2.set i none), ct := fun ρ2 => E.ct (ρ2.set i none), rt := E.rt } (ρ'.set i (some (.exc a cls d (xns x) (xds x)))) else hMany B E r x ρ'
def sTryMany (B : Bs) (l : List Hd) (s : WS) : WS := fun E ρ => s { E with xx := hMany B E l } ρ
inductive DHd (B : Bs) (X : Cx) (pr : Nat → Option V) : List ExceptHandler → List Hd → Prop
  | nil : DHd B X pr [] []
  | cons {x n : Str} {i : Nat} {cs : List Str} {v : Addr → Value → Option Addr → DX → WS} {b₀ : Stmt} {suite : List Stmt} {np pos' : Pos} {hds : List ExceptHandler} {l : List Hd} (hi : X.N[i]? = some n) (hln : X.env.kindOf n = some .local) (T : ExmI X.K cs [x]) (gC : X.mg x = some (.ref (He.ga X.K x)))
      (hsu : ∀ (a : Addr) (oe : Obj) (cls : Value) (d : Option Addr) (pn : List (Addr × Obj)), Zc cls d oe → (∃ vs, oe.data = .fields vs) → ∀ y, XCF B y cls d → DSs B (X.suite a ((a, oe) :: pn)) pr W0 (b₀ :: suite) (v a cls d y)) (r : DHd B X pr hds l)
      (hg : Gl X x := by rfl) (hp : pr i = none := by rfl) (hdb : (x == ("__debug__" : Str)) = false := by decide) : DHd B X pr (.ExceptHandler (some (.Name x np)) (some n) (b₀ :: suite) pos' :: hds) ((x, cs, i, v) :: l)
section
variable {B : Bs} {X : Cx} {pr : Nat → Option V} {W : WX} {body : List Stmt} {h₀ : ExceptHandler} {hds : List ExceptHandler} {l : List Hd} {s : WS} {pos : Pos}
def hdV (B : Bs) (K : PySem.W.Frag) (pr : Nat → Option V) (h : Hd) : Value × Nat × (Addr → Value → Option Addr → TS) := (.ref (He.ga K h.1), h.2.2.1, fun a cls d => fun D σ H => ∃ y, XCF B y cls d ∧ liftS B pr W0 (h.2.2.2 a cls d y) D σ H)
theorem DHd.to (h : DHd B X pr hds l) : HdA X hds (l.map (hdV B X.K pr)) := by
  induction h with
  | nil => exact .nil
  | cons hi hln T gC hsu r hg hp hdb ih =>
    exact .cons hi hln ⟨hg, hdb, .inl gC⟩ (fun a oe cls d pn hz hf => ⟨fun pins s σ H D I ⟨y, hy, q⟩ => (hsu a oe cls d pn hz hf y hy).run pins s σ H D I q⟩) ih
theorem hMany_ok (hK : X.K = B.K) {A : Addr → Prop} {F : List Addr} {H : Hp} {ρ : Rho} {σ : L2.St} {Ed : DEnds} {D : Ends} (e : Env B A H pr σ ρ F) (k : EndsOk B pr W A F H Ed D) (hh : DHd B X pr hds l) :
    ∀ {y : DX} {ρ' : Rho} {σ' : L2.St} {A' : Addr → Prop} {F' : List Addr} {H' : Hp} {cls : Value} {d : Option Addr}, hMany B Ed l y ρ' → Step A F H A' F' H' → Env B A' H' pr σ' ρ' F' → XR B A' H' y cls d → wManyA X.K W D (l.map (hdV B X.K pr)) cls d σ' H' := by
  induction hh with
  | nil =>
    intro y ρ' σ' A' F' H' cls d hy st e' xr
    exact k.xx y ρ' hy σ' A' F' H' cls d st e' xr
  | @cons x n i cs v b₀ suite np pos' hds l hi hln T gC hsu r hg hp hdb ih =>
    intro y ρ' σ' A' F' H' cls d hy st e' xr
    obtain ⟨b, hm, hy⟩ := onSome_iff.mp hy
    refine ⟨b, by rw [hK] at T ⊢; exact mOwn_ok T xr hm, fun hb a _ => ?_, fun hb => ?_⟩
    · rw [if_pos hb] at hy
      have k2 := k.shift e st
      have xc : XCF B y cls d := by
        cases y with
        | own e => exact ⟨xr, trivial⟩
        | fld e ns ds => exact ⟨xr.1, by obtain ⟨_, a', _, e1, _⟩ := xr; exact ⟨a', e1⟩⟩
        | blt n => exact ⟨xr, trivial⟩
      have rp : Rp B A' H' (.exc a cls d (xns y) (xds y)) (.ref a) [] := by
        rw [Rp]
        refine ⟨rfl, rfl, ?_⟩
        cases y with
        | own e => exact ⟨[], show RpA B A' H' [] [] [] by rw [RpA]; exact ⟨rfl, rfl⟩, fun b hb => by obtain ⟨_, rfl⟩ := xr; cases hb⟩
        | fld e ns ds =>
          obtain ⟨_, a', vs, e1, e2, e3, e4, e5⟩ := xr
          exact ⟨vs, e3, fun b hb => by rw [e1] at hb; cases hb; exact ⟨e2, e4, e5⟩⟩
        | blt n => exact absurd hm (by simp [mOwn])
      obtain ⟨F2, hs2, e2⟩ := e'.put hp rp (by simpa using e'.nd)
      have st0 : Step A' F' H' A' F2 H' := ⟨.refl _, fun a ha => .inl (by simpa using hs2 a ha), fun a ha => .inl ha, fun a ha _ => ha⟩
      have k3 := k2.shift e' st0
      have off : ∀ {Kd : Rho → Prop} {Km : L2.St → Hp → Prop}, (∀ ρ', Kd ρ' → ∀ σ'' A'' F'' H'', Step A' F2 H' A'' F'' H'' → Env B A'' H'' pr σ'' ρ' F'' → Km σ'' H'') → ∀ ρ2, Kd (ρ2.set i none) → ∀ σ'' A'' F'' H'', Step A' F2 H' A'' F'' H'' → Env B A'' H'' pr σ'' ρ2 F'' → Km (σ''.set i none) H'' := fun hk ρ2 h2 σ'' A'' F'' H'' t3 e3 => by
        obtain ⟨F3, sb, q⟩ := EnvR.off _ _ _ i e3.r
        refine hk _ h2 _ A'' F3 H'' ⟨t3.keep, fun a ha => t3.fo a (sb.subset ha), t3.ao, t3.ak⟩ ⟨q none, e3.nd.sublist sb, e3.al, fun j w hj => ?_⟩
        rw [List.getElem?_set]
        by_cases hij : i = j
        · subst hij; rw [hp] at hj; cases hj
        · simp [hij, e3.pr j w hj]
      exact ⟨y, xc, A', F2, _, _, e2, hy a cls d xc, off k3.nx, off k3.bk, off k3.ct, k3.rt, fun _ _ z => z.elim⟩
    · rw [if_neg (by rw [hb]; simp)] at hy
      exact ih hy st e' xr
theorem ds_tryMany (hs : X.stack = X.env :: X.outer) (hf : X.env.frame = some X.env.locals) (hN : X.N.Nodup) (tk : Takes X W)
    (hb : ∀ (W : WX) (pn : List (Addr × Obj)) (xe : Value → Shared → Prop), Takes (X.tr pn xe) W → PassesOwn (model X.prog X.w) X.A X.env xe → DSs B (X.tr pn xe) pr W body s)
    (hh : DHd B X pr (h₀ :: hds) l) (hK : X.K = B.K := by rfl) : DS B X pr W (.Try body (h₀ :: hds) [] [] pos) (sTryMany B l s) := by
  refine psW (ps_try_manyAs (tb := fun W => liftS B pr W s) hs hf hN tk hb hh.to) fun D σ H ⟨A, F, ρ, Ed, e, h, k⟩ => ?_
  refine ⟨A, F, ρ, _, e, h, k.nx, k.bk, k.ct, k.rt, fun y ρ' hy σ' A' F' H' cls d st e' xr => hMany_ok hK e k hh hy st e' xr⟩
end
def wXf (a : Addr) (cls : Value) (d : Option Addr) (y : DX) (i : Nat) (c f : Str) : WD := fun ρ Q _ => match y with
  | .fld c' ns ds => c' = c ∧ ρ[i]? = some (some (.exc a cls d ns ds)) ∧ onSome ((ns.zip ds).lookup f) fun x => Q x ρ
  | _ => False
section
variable {B : Bs} {X : Cx} {pr : Nat → Option V} {W : WX} {a : Addr} {oe : Obj} {cls : Value} {d : Option Addr} {pn : List (Addr × Obj)} {i : Nat} {c n : Str} {y : DX} {e : Expr} {pos : Pos}
theorem de_xf (T : XfC X.K (He.ga X.K c)) (hno : PySem.W.findIn X.K (.ref (He.ga X.K c)) n = some none) (hz : Zc cls d oe) (hf : ∃ vs, oe.data = .fields vs) (hy : XCF B y cls d) (he : PE (X.suite a ((a, oe) :: pn)) e (tVar i)) (hK : X.K = B.K := by rfl)
    (hb : attributeBase e n X.env (eval e X.env) = eval e X.env := by rfl) : DE B (X.suite a ((a, oe) :: pn)) pr W (.Attribute e n pos) (wXf a cls d y i c n) := by
  refine peW (pe_xf (cls := cls) (d := d) T hno hz hf he hb) fun σ H Q ⟨A, F, ρ, Qd, Xd, en, h, hq, hx⟩ => ?_
  cases y with
  | own _ => exact h.elim
  | blt _ => exact h.elim
  | fld c' ns ds =>
    obtain ⟨rfl, hi, h⟩ := h
    obtain ⟨x, hl, hQ⟩ := onSome_iff.mp h
    obtain ⟨v, g, hv, rp⟩ := en.at_ hi
    rw [Rp] at rp
    obtain ⟨rfl, rfl, vs, rA, hd⟩ := rp
    obtain ⟨hc, b, hdb⟩ := hy
    obtain ⟨e1, e2, e3⟩ := hd b hdb
    obtain ⟨u, hu, ru⟩ := RpA.get0 rA e2 hl
    refine ⟨.ref a, hv, rfl, by rw [hK]; exact hc, b, _, u, hdb, e1, hu, ?_⟩
    exact hq x ρ hQ A F H u [] ⟨Step.refl A F H, en, ru, by simpa using en.nd, by simp⟩
end
end DL
namespace DL
open PySem PySem.Spec PyProof.Rows L2 PB
section
variable {B : Bs} {E : DEnds} {ρ : Rho} {Q : QD} {X : XD} {c c' f : Str} {fs ns cs : List Str} {os : List Opd} {l : List Hd} {s : WS} {x : DX} {i : Nat} {v : Addr → Value → Option Addr → DX → WS} {a : Addr} {cls : Value} {d : Option Addr} {ds : List D} {e : D} {as : List Arg}
theorem sRaiseF_e : sRaiseF c fs os E ρ = wArgs os ρ (fun as ρ' => onSome (zArgs as) fun ds => ds.length = fs.length ∧ fs.length ≤ 900 ∧ E.xx (.fld c fs.reverse ds.reverse) ρ') E.xx := rfl
theorem zArgs_n : zArgs [] = some [] := rfl
theorem zArgs_c : zArgs (.z e :: as) = (zArgs as).map fun ds => e :: ds := rfl
theorem sTryMany_e : sTryMany B l s E ρ = s { E with xx := hMany B E l } ρ := rfl
theorem hMany_hit {r : List Hd} (h : mOwn cs c x = some true) : hMany B E ((c, cs, i, v) :: r) x ρ = ∀ a cls d, XCF B x cls d → v a cls d x { noX E with nx := fun ρ2 => E.nx (ρ2.set i none), bk := fun ρ2 => E.bk (ρ2.set i none), ct := fun ρ2 => E.ct (ρ2.set i none), rt := E.rt } (ρ.set i (some (.exc a cls d (xns x) (xds x)))) := by
  show onSome (mOwn cs c x) _ = _
  rw [h, onSome_some, if_pos rfl]
theorem hMany_miss {r : List Hd} (h : mOwn cs c x = some false) : hMany B E ((c, cs, i, v) :: r) x ρ = hMany B E r x ρ := by
  show onSome (mOwn cs c x) _ = _
  rw [h, onSome_some, if_neg (by simp)]
theorem wXf_e : wXf a cls d (.fld c' ns ds) i c f ρ Q X = (c' = c ∧ ρ[i]? = some (some (.exc a cls d ns ds)) ∧ onSome ((ns.zip ds).lookup f) fun x => Q x ρ) := rfl
end
end DL
namespace DL
open PySem PySem.Spec PyProof.Rows L2 PB
def nxA (nss : List (List Str)) : Rho → Bool
  | [] => true
  | none :: ρ => nxA nss ρ
  | some d :: ρ => d.noX nss && nxA nss ρ
def nxO (nss : List (List Str)) : Nat → Rho → Bool
  | _, [] => false
  | 0, _ :: ρ => nxA nss ρ
  | i + 1, none :: ρ => nxO nss i ρ
  | i + 1, some d :: ρ => d.noX nss && nxO nss i ρ
def xNX (nss : List (List Str)) : DX → Bool
  | .fld _ _ ds => D.noXA nss ds
  | _ => true
def wBrxX (i : Nat) (w : WD) : WD := fun ρ Q X => sl ρ i fun d => d.mayLend = true ∧ w (ρ.set i (some d.freeze)) (fun r ρ' => r.noX d.insNs = true ∧ brxOk d.insNs i ρ ρ' ∧ Q r (ρ'.set i (some d))) fun x ρ' => xNX d.insNs x = true ∧ nxO d.insNs i ρ' = true ∧ X x (ρ'.set i (some d))
theorem wBrxX_e {i : Nat} {w : WD} {ρ : Rho} {Q : QD} {X : XD} : wBrxX i w ρ Q X = sl ρ i fun d => d.mayLend = true ∧ w (ρ.set i (some d.freeze)) (fun r ρ' => r.noX d.insNs = true ∧ brxOk d.insNs i ρ ρ' ∧ Q r (ρ'.set i (some d))) fun x ρ' => xNX d.insNs x = true ∧ nxO d.insNs i ρ' = true ∧ X x (ρ'.set i (some d)) := rfl
section
variable {B : Bs} {A A1 A2 : Addr → Prop} {H H1 : Hp} {nss : List (List Str)}
theorem EnvR.nxA (hN : ∀ d v g, d.noX nss = true → Rp B A1 H1 d v g → Rp B A2 H1 d v g) : ∀ (ρ : Rho) (σ : L2.St) (f : List Addr), EnvR B A1 H1 ρ σ f → DL.nxA nss ρ = true → EnvR B A2 H1 ρ σ f
  | [], _, _, h, _ => by rw [EnvR] at h ⊢; exact h
  | none :: ρ, _, f, h, hb => by
    rw [EnvR] at h ⊢
    obtain ⟨u, σr, rfl, h⟩ := h
    exact ⟨u, σr, rfl, EnvR.nxA hN ρ σr _ h hb⟩
  | some d :: ρ, _, f, h, hb => by
    rw [DL.nxA, Bool.and_eq_true] at hb
    rw [EnvR] at h ⊢
    obtain ⟨v, σr, g, k, rfl, rfl, p, h⟩ := h
    exact ⟨v, σr, g, k, rfl, rfl, hN d v g hb.1 p, EnvR.nxA hN ρ σr _ h hb.2⟩
theorem EnvR.nxO (hN : ∀ d v g, d.noX nss = true → Rp B A1 H1 d v g → Rp B A2 H1 d v g) : ∀ (i : Nat) (ρ : Rho) (σ : L2.St) (f : List Addr), EnvR B A1 H1 ρ σ f → DL.nxO nss i ρ = true → i < ρ.length ∧ ∃ f2, f2.Sublist f ∧ EnvR B A2 H1 (ρ.set i none) σ f2
  | i, [], _, _, _, h => by cases i <;> cases h
  | 0, none :: ρ, _, f, h, hb => by
    rw [EnvR] at h
    obtain ⟨u, σr, rfl, h⟩ := h
    exact ⟨by simp, f, .refl _, by rw [List.set_cons_zero, EnvR]; exact ⟨u, σr, rfl, EnvR.nxA hN ρ σr _ h hb⟩⟩
  | 0, some d :: ρ, _, f, h, hb => by
    rw [EnvR] at h
    obtain ⟨v, σr, g, k, rfl, rfl, p, h⟩ := h
    exact ⟨by simp, k, List.sublist_append_right .., by rw [List.set_cons_zero, EnvR]; exact ⟨_, σr, rfl, EnvR.nxA hN ρ σr _ h hb⟩⟩
  | i + 1, none :: ρ, _, f, h, hb => by
    rw [EnvR] at h
    obtain ⟨u, σr, rfl, h⟩ := h
    obtain ⟨hl, f2, s2, e2⟩ := EnvR.nxO hN i ρ σr _ h hb
    exact ⟨by simpa using hl, f2, s2, by rw [List.set_cons_succ, EnvR]; exact ⟨u, σr, rfl, e2⟩⟩
  | i + 1, some d :: ρ, _, f, h, hb => by
    rw [DL.nxO, Bool.and_eq_true] at hb
    rw [EnvR] at h
    obtain ⟨v, σr, g, k, rfl, rfl, p, h⟩ := h
    obtain ⟨hl, f2, s2, e2⟩ := EnvR.nxO hN i ρ σr _ h hb.2
    exact ⟨by simpa using hl, g ++ f2, List.Sublist.append_left s2 g, by rw [List.set_cons_succ, EnvR]; exact ⟨_, σr, g, f2, rfl, rfl, hN d v g hb.1 p, e2⟩⟩
end
section
variable {B : Bs} {X : Cx} {pr : Nat → Option V} {W : WX} {e : Expr} {w : WD}
theorem lift_brxX {i : Nat} {v0 : V} (hpr : pr i = some v0) {σ : L2.St} {H : Hp} {Q : VK} (h : liftE B pr W (wBrxX i w) σ H Q) : liftE B pr W w σ H Q := by
  obtain ⟨A, F, ρ, Qd, Xd, en, h, hq, hx⟩ := h
  obtain ⟨d, hi, mf, h⟩ := sl_iff.mp h
  obtain ⟨v, f1, g, f2, ev, rfl, p, back⟩ := EnvR.at_ ρ σ F i d hi en.r
  obtain rfl : v = v0 := by
    have := en.pr i v0 hpr
    rw [ev] at this
    cases this
    rfl
  have nd := en.nd
  have nd2 : (f1 ++ f2).Nodup := nd.sublist (by rw [List.append_assoc]; exact List.Sublist.append_left (List.sublist_append_right ..) _)
  have hs : ∀ a ∈ f1 ++ f2, a ∉ g := fun a ha hg => by
    rw [List.append_assoc] at nd
    have n1 := List.nodup_append.mp nd
    rcases List.mem_append.mp ha with ha | ha
    · exact n1.2.2 a ha a (List.mem_append_left _ hg) rfl
    · exact (List.nodup_append.mp n1.2.1).2.2 a hg a ha rfl
  have hf : ∀ a ∈ f1 ++ f2, a ∈ f1 ++ g ++ f2 := fun a ha => by rcases List.mem_append.mp ha with ha | ha <;> simp [ha]
  have hgl := Rp.ownK d v g mf p
  have hgA := Rp.own d v g p
  have e0 : Env B (Less A g) H pr σ (ρ.set i (some d.freeze)) (f1 ++ f2) := by
    refine ⟨?_, nd2, fun a ha => en.al a ha.1, en.pr⟩
    have r := back (Less A g) H d.freeze v [] (fun r s h a b => EnvR.less g r s h (fun z hz => hs z (b z hz)) a) (Rp.lend g d v g (fun _ h => h) mf p)
    rw [set_same ev] at r
    simpa using r
  have fa := en.fa
  have ngx : g.Nodup := (List.nodup_append.mp (List.nodup_append.mp nd).1).2.1
  -- what is common to both ends
  have com : ∀ {A1 : Addr → Prop} {F1 : List Addr} {H1 : Hp}, Step (Less A g) (f1 ++ f2) H A1 F1 H1 → (∀ a ∈ g, H1 a = H a) ∧ (∀ d2 v g', d2.noX d.insNs = true → Rp B A1 H1 d2 v g' → Rp B (fun a => A1 a ∨ a ∈ g) H1 d2 v g') ∧ Stays A (f1 ++ f2) H (fun a => A1 a ∨ a ∈ g) H1 ∧ Rp B (fun a => A1 a ∨ a ∈ g) H1 d v g := fun {A1 F1 H1} st => by
    have gat : ∀ a ∈ g, H1 a = H a := fun a ha => by
      cases hx : H a with
      | none => exact absurd hx (hgA a ha).2
      | some u => exact st.keep.at_ a _ (fun z => hs a z ha) hx
    have hgl1 : ∀ a ∈ g, OwnK d.insNs (H1 a) := fun a ha => by rw [gat a ha]; exact hgl a ha
    have s0 : Stays A (f1 ++ f2) H (fun a => A1 a ∨ a ∈ g) H1 := ⟨st.keep, fun a ha => fa a (hf a ha), fun a ha => by
      rcases ha with z | z
      · exact (st.ao a z).imp (fun q => q.1) id
      · exact .inl (fa a (by simp [z])), fun a ha n => by
      by_cases z : a ∈ g
      · exact .inr z
      · exact .inl (st.ak a ⟨ha, z⟩ n)⟩
    exact ⟨gat, fun d2 v g' m p => Rp.againX hgl1 (fun _ => Iff.rfl) d2 v g' m p, s0, Rp.stay s0 d v g (fun a ha z => hs a z ha) p⟩
  have put : ∀ {A1 : Addr → Prop} {F1 f3 : List Addr} {H1 : Hp} {ρ' : Rho} {σ' : L2.St}, Step (Less A g) (f1 ++ f2) H A1 F1 H1 → (∀ a, A1 a → H1 a ≠ none) → F1.Nodup → (∀ j w, pr j = some w → σ'[j]? = some (some w)) → i < ρ'.length → f3.Sublist F1 → EnvR B (fun a => A1 a ∨ a ∈ g) H1 (ρ'.set i none) σ' f3 → σ'[i]? = some (some v) →
      ∃ u1 u2, f3 = u1 ++ u2 ∧ Step A (f1 ++ g ++ f2) H (fun a => A1 a ∨ a ∈ g) (u1 ++ g ++ u2) H1 ∧ Env B (fun a => A1 a ∨ a ∈ g) H1 pr σ' (ρ'.set i (some d)) (u1 ++ g ++ u2) := fun {A1 F1 f3 H1 ρ' σ'} st al nd1 hp hlen sub r3 ev' => by
    obtain ⟨gat, hN, s0, pg⟩ := com st
    obtain ⟨u1, u2, rfl, r4⟩ := EnvR.put (ρ'.set i none) σ' f3 i d v g (by simpa using hlen) (by simp [hlen]) r3 pg
    rw [List.set_set, set_same ev'] at r4
    have gu : ∀ a ∈ u1 ++ u2, a ∉ g := fun a ha z => (st.fo a (sub.subset ha)).elim (fun q => hs a q z) (hgA a z).2
    have nu := nd1.sublist sub
    have nds : (u1 ++ g ++ u2).Nodup := by
      have h1 := List.nodup_append.mp nu
      refine List.nodup_append.mpr ⟨List.nodup_append.mpr ⟨h1.1, ngx, fun a ha b hb e => gu a (by simp [ha]) (by rw [e]; exact hb)⟩, h1.2.1, fun a ha b hb e => ?_⟩
      rcases List.mem_append.mp ha with z | z
      · exact h1.2.2 a z b hb e
      · exact gu b (by simp [hb]) (by rw [← e]; exact z)
    have al2 : ∀ a, (A1 a ∨ a ∈ g) → H1 a ≠ none := fun a ha => by
      rcases ha with z | z
      · exact al a z
      · rw [gat a z]; exact (hgA a z).2
    refine ⟨u1, u2, rfl, ⟨⟨fun b ob n hb => st.keep.at_ b ob (fun z => n (hf b z)) hb, st.keep.imm⟩, fun a ha => ?_, s0.ao, fun a ha n => s0.ak a ha fun z => n (hf a z)⟩, ⟨r4, nds, al2, hp⟩⟩
    rcases List.mem_append.mp ha with z | z
    · rcases List.mem_append.mp z with z | z
      · exact (st.fo a (sub.subset (by simp [z]))).imp (hf a) id
      · exact .inl (by simp [z])
    · exact (st.fo a (sub.subset (by simp [z]))).imp (hf a) id
  refine ⟨Less A g, f1 ++ f2, _, _, _, e0, h, fun r ρ' hd A1 F1 H1 x fx o => ?_, fun x ρ' hX σ' A1 F1 H1 cls dd st en1 xr => ?_⟩
  · obtain ⟨hn, hb, hd⟩ := hd
    obtain ⟨gat, hN, s0, pg⟩ := com o.step
    have hS : ∀ d v, d.isFz = true → Rp B A H d v [] → Rp B (fun a => A1 a ∨ a ∈ g) H1 d v [] := fun d v _ p => Rp.stay s0 d v [] (by simp) p
    obtain ⟨hlen, f3, sub, r3⟩ := EnvR.brx hN hS i _ _ _ _ _ en.r o.env.r hb
    obtain ⟨u1, u2, rfl, st2, en2⟩ := put o.step o.env.al o.env.nd en.pr hlen sub r3 ev
    have gx : ∀ a ∈ fx, a ∉ g := fun a ha z => (o.src a ha).elim (fun q => hs a q z) (hgA a z).2
    have nx := (List.nodup_append.mp o.nd)
    refine hq _ _ hd _ _ H1 x fx ⟨st2, en2, hN _ _ _ hn o.val, ?_, fun a ha => (o.src a ha).imp (hf a) id⟩
    refine List.nodup_append.mpr ⟨nx.1, en2.nd, fun a ha b hb e => ?_⟩
    rcases List.mem_append.mp hb with z | z
    · rcases List.mem_append.mp z with z | z
      · exact nx.2.2 a ha b (sub.subset (by simp [z])) e
      · exact gx a ha (by rw [e]; exact z)
    · exact nx.2.2 a ha b (sub.subset (by simp [z])) e
  · obtain ⟨hxn, hb, hX⟩ := hX
    obtain ⟨gat, hN, s0, pg⟩ := com st
    obtain ⟨hlen, f3, sub, r3⟩ := EnvR.nxO hN i _ _ _ en1.r hb
    obtain ⟨u1, u2, rfl, st2, en2⟩ := put st en1.al en1.nd en1.pr hlen sub r3 (en1.pr i v hpr)
    refine hx x _ hX σ' _ _ H1 cls dd st2 en2 ?_
    cases x with
    | own c => exact xr
    | blt n => exact xr
    | fld c ns ds =>
      obtain ⟨e1, a, vs, e2, e3, e4, e5, e6⟩ := xr
      refine ⟨e1, a, vs, e2, e3, ?_, e5, fun z => z.elim e6 fun z => ?_⟩
      · have hgl1 : ∀ a ∈ g, OwnK d.insNs (H1 a) := fun a ha => by rw [gat a ha]; exact hgl a ha
        exact RpA.againX hgl1 (fun _ => Iff.rfl) ds vs [] hxn e4
      · have := hgl a z
        rw [← gat a z, e3] at this
        rcases this with ⟨_, h⟩ | ⟨_, h⟩ | ⟨_, h⟩ | ⟨_, _, _, _, h, _⟩ <;> cases h
theorem de_brxX (i : Nat) {v0 : V} (hpr : pr i = some v0) (h : DE B X pr W e w) : DE B X pr W e (wBrxX i w) := peW h fun _ _ _ h => lift_brxX hpr h
/-- del x.f[k] where k may raise: either told without an error, or with one -/
def sDelX (i : Nat) (p : List Acc) (w : WD) : WS := fun E ρ => wDelL i p w ρ E.nx ∨ (∃ d0 e, ρ[i]? = some (some d0) ∧ getP p d0 = some e) ∧ wBrxX i w ρ (fun _ _ => False) E.xx
theorem ds_delX {o k : Expr} {i : Nat} {p : List Acc} {tpos pos : Pos} {v0 : V} (hpr : pr i = some v0) (ok : PthOk B.K p) (ho : PE X o (tP B.K p (tVar i))) (hk : DE B X pr W k w) : DS B X pr W (.Delete [.Subscript o k tpos] pos) (sDelX i p w) := by
  have h1 : DS B X pr W (.Delete [.Subscript o k tpos] pos) (fun E ρ => wDelL i p w ρ E.nx) := ds_del (ddls_cons (ddl_PLW ok ho hk) ddls_nil)
  have h2 := ps_dels (pos := pos) (pdls_cons (pdl_subL (tpos := tpos) ho hk) pdls_nil)
  refine ⟨fun pins s σ H D I ⟨A, F, ρ, Ed, en, h, kk⟩ => ?_⟩
  rcases h with h | ⟨⟨d0, e, hi, hp⟩, h⟩
  · exact h1.run pins s σ H D I ⟨A, F, ρ, Ed, en, h, kk⟩
  · refine h2.run pins s σ H D I ?_
    obtain ⟨u, g2, F0, v, g, _, rd, _⟩ := en.placeG hi ok hp
    exact rd _ (lift_brxX hpr ⟨A, F, ρ, _, _, en, h, fun _ _ z => z.elim, kk.xx⟩)
theorem sDelX_e {i : Nat} {p : List Acc} {E : DEnds} {ρ : Rho} : sDelX i p w E ρ = (wDelL i p w ρ E.nx ∨ (∃ d0 e, ρ[i]? = some (some d0) ∧ getP p d0 = some e) ∧ wBrxX i w ρ (fun _ _ => False) E.xx) := rfl
end
end DL
local macro_rules | `(tactic| walk_at "dw") => `(tactic| try simp only [↓DL.wDelL_e, ↓DL.onLM_e, ↓DL.wIxOwn_e, ↓DL.sSetPropD_e, ↓DL.gSetOwn_e, ↓DL.wBrxT_e, ↓DL.bryOk_0, ↓DL.bryOk_s, ↓DL.bryAll_c, ↓DL.bryAll_n, ↓DL.okY_n, ↓DL.wBry_e, ↓DL.gDictX_d, ↓DL.gDictN_l, ↓DL.wBrd_e, ↓DL.brdOk_0, ↓DL.brdOk_s, ↓DL.brdAll_c, ↓DL.brdAll_n, ↓DL.okDk_n, ↓DL.isOD_e, ↓DL.wAppBx_e, ↓DL.wListBx_e, ↓DL.sForDX_e, ↓DL.onDicY_e, ↓DL.sAugK_e, ↓DL.onCnt_e, ↓DL.sSet3_e, ↓DL.gMin2_e, ↓DL.gListX_d, ↓DL.gListX_l, ↓DL.gListX_t, ↓DL.wCnt_e, ↓DL.hCnt_e, ↓DL.wLcP_e, ↓DL.wDelP_e, ↓DL.onDT_e, ↓DL.wDc_e, ↓DL.wDcF_e, ↓DL.fldZ_e, ↓DL.onDicZ_e, ↓DL.wFilt_e, ↓DL.onRecoP_e, ↓DL.gSetO_e, ↓DL.wRev_e, ↓DL.wRevT_e, ↓DL.wForget_e, ↓DL.frz_v, ↓DL.wBrx_e, ↓DL.wPk_e, ↓DL.wLmP_e, ↓DL.onLT_e, ↓DL.wAppP_e, ↓DL.onBP_e, ↓DL.gSetP_e, ↓DL.isR_l, ↓DL.isR_d, ↓DL.isR_r, ↓DL.gPutR_l, ↓DL.gPutR_d, ↓DL.gPutR_r, ↓DL.sPutQ_e, ↓DL.onInsT_e, ↓DL.sAugQ_e, ↓DL.wCallP_e, ↓DL.on1c_e, ↓DL.sForH_e, ↓DL.sForBP_e, ↓DL.sForBU_e, ↓DL.onBxP_b, ↓DL.onBxP_n, ↓DL.backP_e, ↓DL.bpBack_e, ↓DL.isVal_e, ↓DL.onL1_e, ↓DL.gSlTo_e, ↓DL.onLs_e, ↓DL.wProp_w, ↓DL.wProp_v, ↓DL.isI_e, ↓DL.wRecoN_e, ↓DL.onReco_e, ↓DL.slN_0, ↓DL.slN_s, ↓DL.getP_n, ↓DL.setP_n, ↓DL.brxOk_0, ↓DL.brxOk_s, ↓DL.brxAll_n, ↓DL.brxAll_c, ↓DL.okX_n, ↓DL.okX_e, ↓DL.nX_i, ↓DL.nX_b, ↓DL.nX_s, ↓DL.nX_n, ↓DL.nX_v, ↓DL.nX_t, ↓DL.nX_l, ↓DL.nX_bx, ↓DL.nX_z, ↓DL.nXA_n, ↓DL.nXA_c, ↓DL.nX_ints, ↓DL.nX_strs, true_or, or_true, ↓DL.wEither_e, ↓DL.sForO_e, ↓DL.onOL_l, ↓DL.wOwnB_e, ↓DL.wROwnB_e, ↓DL.isBlD_b, ↓DL.wOwnC_e, ↓DL.wROwn_e, ↓DL.isIn_i, ↓DL.wMvA_e, ↓DL.isLsD_l, ↓DL.isLsD_b, ↓DL.gIsNV_v, ↓DL.gIsNV_n, ↓DL.gIsNV_l, ↓DL.gT2_t, ↓DL.gT2_l, ↓DL.wIdxE_e, ↓DL.sFrz_e, ↓DL.gSetBw_e, ↓DL.gListS_e, ↓DL.gIsE_c, ↓DL.gIsE_t, ↓DL.gIsET_e, ↓DL.gSetBx_e, ↓DL.wLcX_e, ↓DL.maskD_n, ↓DL.maskD_t, ↓DL.maskD_f, ↓DL.maskD_0, ↓DL.wBrw_e, ↓DL.wTupB_e, ↓DL.onBoxL_b, ↓DL.sForBx_e, ↓DL.onBx_b, ↓DL.onBx_t, ↓DL.gInDp_l, ↓DL.gInDp_t, ↓DL.wIdxD_e, ↓DL.hIdxD_e, ↓DL.wRepl_e, ↓DL.gRepS_e, ↓DL.wLcT_e, ↓DL.wtNest_e, ↓DL.wtEnd_e, ↓DL.wAppB_e, ↓DL.onBoxE_b, ↓DL.onBoxE_n, ↓DL.on1_e, ↓DL.wLenBx_e, ↓DL.wLcB_e, ↓DL.onBox_e, ↓DL.onLstB_e, ↓DL.ixO_c, ↓DL.ixO_v, ↓DL.wIxB_e, ↓DL.gSetB_e, ↓DL.gLenB_e, ↓DL.sForD_e, ↓DL.onDicF_e, ↓DL.wDictN_e, ↓DL.onPairs_e, ↓DL.wMakeK_e, ↓DL.sRaise_e, ↓DL.sTry_e, ↓DL.sTryAs_e, ↓DL.sRaiseF_e, ↓DL.sTryMany_e, ↓DL.wBrxX_e, ↓DL.sDelX_e, ↓DL.wXf_e, DL.zArgs_n, DL.zArgs_c, ↓DL.noX_e, ↓DL.wiEnumV_e, ↓DL.wM1_e, ↓DL.gSplit_e, ↓DL.gPart_e, ↓DL.gJoin_l, ↓DL.gJoin_t, ↓DL.onFmt_s, ↓DL.onFmt_i, ↓DL.wFmt_e, ↓DL.wJs_n, ↓DL.wJs_c, ↓DL.wJoined_e, ↓DL.gStrI_i, ↓DL.gStrI_s, ↓DL.gIntS_e, ↓DL.gSign_e, ↓DL.wStrOwn_e, ↓DL.gMax2_e, ↓DL.gIntL_l, ↓DL.gRep_e, ↓DL.wLc2_e, ↓DL.wListRg1_e, ↓DL.wListZip_e, ↓DL.onListZip_e, ↓DL.wLenOwn_e, ↓DL.wiEnumT_e, ↓DL.onTupF_e, ↓DL.wLenSet_e, ↓DL.onIntL_e, ↓DL.wGet_e, ↓DL.isDc_e, ↓DL.hGet_e, ↓DL.gLenX_d, ↓DL.gLenX_l, ↓DL.gLenX_t, ↓DL.wiZipN_e, ↓DL.onZipN_t, ↓DL.onZipN_l, ↓DL.isFn_e, ↓DL.gInT_e, ↓DL.gIxT_e, ↓DL.onOne_e, ↓DL.wOwn1_e, ↓DL.wIdx_e, ↓DL.isLx_l, ↓DL.hIdx_e, ↓DL.wListRg_e, ↓DL.onRg_e, ↓DL.gInX_d, ↓DL.gInX_l, ↓DL.gInX_t, ↓DL.gInX_s, ↓DL.gIxX_d, ↓DL.gIxX_l, ↓DL.gIxX_t, ↓DL.gIxX_s, ↓DL.gSetX_e, ↓DL.isLD_l, ↓DL.isLD_d, ↓DL.gPutX_l, ↓DL.gPutX_d, ↓DL.wDict1_e, ↓DL.onPair1_e, ↓DL.wDnew_e, ↓DL.sNext, ↓DL.sSeq, ↓DL.sIf, ↓DL.sSet, ↓DL.sAsg, ↓DL.sAug, ↓DL.sRet, ↓DL.sRetN, ↓DL.sDrop, ↓DL.sBreak, ↓DL.sCont, ↓DL.gN, ↓DL.bodyE, ↓DL.wYes, ↓DL.wipeD, ↓DL.sl_0, ↓DL.wiZip_e, ↓DL.onZip_l, ↓DL.onZip_t, ↓DL.wLc_e, ↓DL.sFor_e, ↓DL.sl_s, ↓DL.onBl_bl, ↓DL.onInt_int, ↓DL.onSeq_lst, ↓DL.onSeq_tup, ↓DL.onLst_lst, ↓DL.onOwnL_lst, ↓DL.onStr_str, ↓DL.onMade_non, ↓DL.onSome_some, ↓DL.wVar_e, ↓DL.wMove_e, ↓DL.wC_e, ↓DL.wFz_e, ↓DL.wOp_ww, ↓DL.wOp_vw, ↓DL.wOp_wv, ↓DL.wOp_vv, ↓DL.wUn_w, ↓DL.wUn_v, ↓DL.wOps_n, ↓DL.wOps_w, ↓DL.wOps_v, ↓DL.wCB_e, ↓DL.wL_n, ↓DL.wL_c, ↓DL.wTup_e, ↓DL.wLst_e, ↓DL.wT_e, ↓DL.wNotT_e, ↓DL.wAndT_e, ↓DL.wOrT_e, ↓DL.wIfE_e, ↓DL.wAndV_e, ↓DL.wOrV_e, ↓DL.wNotV_e, ↓DL.wChain_e, ↓DL.wArgs_n, ↓DL.wArgs_w, ↓DL.wArgs_v, ↓DL.takeL_n, ↓DL.takeL_z, ↓DL.takeL_s, ↓DL.backL_n, ↓DL.backL_z, ↓DL.backL_s, ↓DL.callK_e, ↓DL.wCall_e, ↓DL.wRecv_w, ↓DL.wRecv_v, ↓DL.isIns_e, ↓DL.wMeth_e, ↓DL.makeK_e, ↓DL.wMake_e, ↓DL.outP_n, ↓DL.outP_t, ↓DL.outP_f, ↓DL.outP_0, ↓DL.sPar_e, ↓DL.gT_e, ↓DL.gsN_e, ↓DL.gsC_e, ↓DL.wiSeq_e, ↓DL.wiStr_e, ↓DL.wiEnum_e, ↓DL.onInt1_e, ↓DL.onInt2_e, ↓DL.wiRng1_e, ↓DL.wiRng2_e, ↓DL.wLm_e, ↓DL.hApp_e, ↓DL.hExt_e, ↓DL.hIns_e, ↓DL.hPop_e, ↓DL.gSetL_e, ↓DL.wPart_n, ↓DL.wPart_s, ↓DL.wSl_w, ↓DL.wSl_v, ↓DL.gSl_l, ↓DL.gSl_t, ↓DL.gSl_s, ↓DL.wFld_e, ↓DL.fldD_e, ↓DL.sPut_e, ↓DL.putO_e, ↓DL.may_i, ↓DL.may_b, ↓DL.may_s, ↓DL.may_n, ↓DL.may_y, ↓DL.may_f, ↓DL.may_l, ↓DL.may_d, ↓DL.may_t, ↓DL.may_o, ↓DL.may_z, ↓DL.may_r, ↓DL.mayA_n, ↓DL.mayA_c, ↓DL.frz_i, ↓DL.frz_b, ↓DL.frz_s, ↓DL.frz_n, ↓DL.frz_y, ↓DL.frz_f, ↓DL.frz_r, ↓DL.frz_l, ↓DL.frz_d, ↓DL.frz_t, ↓DL.frz_o, ↓DL.frz_z, ↓DL.frzA_n, ↓DL.frzA_c, ↓DL.fz_i, ↓DL.fz_b, ↓DL.fz_s, ↓DL.fz_n, ↓DL.fz_y, ↓DL.fz_f, ↓DL.fz_r, ↓DL.fz_l, ↓DL.fz_d, ↓DL.fz_t, ↓DL.fz_o, ↓DL.fzA_n, ↓DL.fzA_c, ↓DL.flat_i, ↓DL.flat_b, ↓DL.flat_s, ↓DL.flat_n, ↓DL.gI_e, ↓DL.gII_e, ↓DL.gAdd_i, ↓DL.gAdd_s, ↓DL.gAdd_l, ↓DL.gAdd_t, ↓DL.gEq_ii, ↓DL.gEq_ss, ↓DL.gEq_bb, ↓DL.gEq_nn, ↓DL.gEq_ni, ↓DL.gEq_in, ↓DL.gEq_ns, ↓DL.gEq_sn, ↓DL.gNe_ii, ↓DL.gNe_ss, ↓DL.gNe_bb, ↓DL.gNe_nn, ↓DL.gNe_ni, ↓DL.gNe_in, ↓DL.gNe_ns, ↓DL.gNe_sn, ↓DL.gIsN_e, ↓DL.isNon_n, ↓DL.isNon_i, ↓DL.isNon_b, ↓DL.isNon_s, ↓DL.isNon_t, ↓DL.isNon_l, ↓DL.gIsB_e, ↓DL.gIx_l, ↓DL.gIx_t, ↓DL.gIx_s, ↓DL.gLen_l, ↓DL.gLen_t, ↓DL.gLen_s, ↓DL.gInt_i, ↓DL.gInt_b, ↓DL.gList_l, ↓DL.gList_t, ↓DL.gTuple_l, ↓DL.gTuple_t, ↓DL.gAllB_l, ↓DL.gIn_l, ↓DL.gIn_t, ↓DL.gIsi_e, ↓DL.isiD_i, ↓DL.isiD_b, ↓DL.isiD_s, ↓DL.isiD_n, ↓DL.isiD_l, ↓DL.isiD_t, ↓DL.gNeg_e, ↓DL.onTwo_e, ↓DL.argD_z, ↓DL.argD_s, ↓DL.isC_e, ↓DL.isCI_e, ↓DL.isCI_i, ↓DL.wInOwn_e, ↓DL.wOwn_e, List.set_cons_zero, List.set_cons_succ, List.map_cons, List.map_nil, List.cons_append, List.nil_append, List.replicate_succ, List.replicate_zero, List.foldl_cons, List.foldl_nil, List.zip_cons_cons, List.zip_nil_left, cond_true, cond_false, List.tail_cons, List.length_cons, List.length_nil, Nat.zero_le, Nat.reduceAdd, Nat.reduceSub, Nat.reduceLeDiff, decide_true, decide_false, Bool.and_true, Bool.true_and, Bool.and_self, Bool.not_true, Bool.not_false, if_true, ite_true, ite_false, Bool.false_eq_true, true_and, and_true, implies_true])
local macro_rules | `(tactic| walk_at "dx") => `(tactic| try simp only [↓DL.wDelL_e, ↓DL.onLM_e, ↓DL.wIxOwn_e, ↓DL.sSetPropD_e, ↓DL.gSetOwn_e, ↓DL.wBrxT_e, ↓DL.bryOk_0, ↓DL.bryOk_s, ↓DL.bryAll_c, ↓DL.bryAll_n, ↓DL.okY_n, ↓DL.wBry_e, ↓DL.gDictX_d, ↓DL.gDictN_l, ↓DL.wBrd_e, ↓DL.brdOk_0, ↓DL.brdOk_s, ↓DL.brdAll_c, ↓DL.brdAll_n, ↓DL.okDk_n, ↓DL.isOD_e, ↓DL.wAppBx_e, ↓DL.wListBx_e, ↓DL.sForDX_e, ↓DL.onDicY_e, ↓DL.sAugK_e, ↓DL.onCnt_e, ↓DL.sSet3_e, ↓DL.gMin2_e, ↓DL.gListX_d, ↓DL.gListX_l, ↓DL.gListX_t, ↓DL.wCnt_e, ↓DL.hCnt_e, ↓DL.wLcP_e, ↓DL.wDelP_e, ↓DL.onDT_e, ↓DL.wDc_e, ↓DL.wDcF_e, ↓DL.fldZ_e, ↓DL.onDicZ_e, ↓DL.wFilt_e, ↓DL.onRecoP_e, ↓DL.gSetO_e, ↓DL.wRev_e, ↓DL.wRevT_e, ↓DL.wForget_e, ↓DL.frz_v, ↓DL.wBrx_e, ↓DL.wPk_e, ↓DL.wLmP_e, ↓DL.onLT_e, ↓DL.wAppP_e, ↓DL.onBP_e, ↓DL.gSetP_e, ↓DL.isR_l, ↓DL.isR_d, ↓DL.isR_r, ↓DL.gPutR_l, ↓DL.gPutR_d, ↓DL.gPutR_r, ↓DL.sPutQ_e, ↓DL.onInsT_e, ↓DL.sAugQ_e, ↓DL.wCallP_e, ↓DL.on1c_e, ↓DL.sForH_e, ↓DL.sForBP_e, ↓DL.sForBU_e, ↓DL.onBxP_b, ↓DL.onBxP_n, ↓DL.backP_e, ↓DL.bpBack_e, ↓DL.isVal_e, ↓DL.onL1_e, ↓DL.gSlTo_e, ↓DL.onLs_e, ↓DL.wProp_w, ↓DL.wProp_v, ↓DL.isI_e, ↓DL.wRecoN_e, ↓DL.onReco_e, ↓DL.slN_0, ↓DL.slN_s, ↓DL.getP_n, ↓DL.setP_n, ↓DL.brxOk_0, ↓DL.brxOk_s, ↓DL.brxAll_n, ↓DL.brxAll_c, ↓DL.okX_n, ↓DL.okX_e, ↓DL.nX_i, ↓DL.nX_b, ↓DL.nX_s, ↓DL.nX_n, ↓DL.nX_v, ↓DL.nX_t, ↓DL.nX_l, ↓DL.nX_bx, ↓DL.nX_z, ↓DL.nXA_n, ↓DL.nXA_c, ↓DL.nX_ints, ↓DL.nX_strs, true_or, or_true, ↓DL.wEither_e, ↓DL.sForO_e, ↓DL.onOL_l, ↓DL.wOwnB_e, ↓DL.wROwnB_e, ↓DL.isBlD_b, ↓DL.wOwnC_e, ↓DL.wROwn_e, ↓DL.isIn_i, ↓DL.wMvA_e, ↓DL.isLsD_l, ↓DL.isLsD_b, ↓DL.gIsNV_v, ↓DL.gIsNV_n, ↓DL.gIsNV_l, ↓DL.gT2_t, ↓DL.gT2_l, ↓DL.wIdxE_e, ↓DL.sFrz_e, ↓DL.gSetBw_e, ↓DL.gListS_e, ↓DL.gIsE_c, ↓DL.gIsE_t, ↓DL.gIsET_e, ↓DL.gSetBx_e, ↓DL.wLcX_e, ↓DL.maskD_n, ↓DL.maskD_t, ↓DL.maskD_f, ↓DL.maskD_0, ↓DL.wBrw_e, ↓DL.wTupB_e, ↓DL.onBoxL_b, ↓DL.sForBx_e, ↓DL.onBx_b, ↓DL.onBx_t, ↓DL.gInDp_l, ↓DL.gInDp_t, ↓DL.wIdxD_e, ↓DL.hIdxD_e, ↓DL.wRepl_e, ↓DL.gRepS_e, ↓DL.wLcT_e, ↓DL.wtNest_e, ↓DL.wtEnd_e, ↓DL.wAppB_e, ↓DL.onBoxE_b, ↓DL.onBoxE_n, ↓DL.on1_e, ↓DL.wLenBx_e, ↓DL.wLcB_e, ↓DL.onBox_e, ↓DL.onLstB_e, ↓DL.ixO_c, ↓DL.ixO_v, ↓DL.wIxB_e, ↓DL.gSetB_e, ↓DL.gLenB_e, ↓DL.sForD_e, ↓DL.onDicF_e, ↓DL.wDictN_e, ↓DL.onPairs_e, ↓DL.wMakeK_e, ↓DL.sRaise_e, ↓DL.sTry_e, ↓DL.sTryAs_e, ↓DL.sRaiseF_e, ↓DL.sTryMany_e, ↓DL.wBrxX_e, ↓DL.sDelX_e, ↓DL.wXf_e, DL.zArgs_n, DL.zArgs_c, ↓DL.noX_e, ↓DL.wiEnumV_e, ↓DL.wM1_e, ↓DL.gSplit_e, ↓DL.gPart_e, ↓DL.gJoin_l, ↓DL.gJoin_t, ↓DL.onFmt_s, ↓DL.onFmt_i, ↓DL.wFmt_e, ↓DL.wJs_n, ↓DL.wJs_c, ↓DL.wJoined_e, ↓DL.gStrI_i, ↓DL.gStrI_s, ↓DL.gIntS_e, ↓DL.gSign_e, ↓DL.wStrOwn_e, ↓DL.gMax2_e, ↓DL.gIntL_l, ↓DL.gRep_e, ↓DL.wLc2_e, ↓DL.wListRg1_e, ↓DL.wListZip_e, ↓DL.onListZip_e, ↓DL.wLenOwn_e, ↓DL.wiEnumT_e, ↓DL.onTupF_e, ↓DL.wLenSet_e, ↓DL.onIntL_e, ↓DL.wGet_e, ↓DL.isDc_e, ↓DL.hGet_e, ↓DL.gLenX_d, ↓DL.gLenX_l, ↓DL.gLenX_t, ↓DL.wiZipN_e, ↓DL.onZipN_t, ↓DL.onZipN_l, ↓DL.atI_0, ↓DL.atI_1, ↓DL.atI_2, ↓DL.atI_3, Int.cast_ofNat_Int, Int.reduceEq, Bool.false_and, Bool.and_false, Bool.or_true, Bool.true_or, Bool.or_false, Bool.false_or, ↓DL.isFn_e, ↓DL.gInT_e, ↓DL.gIxT_e, ↓DL.onOne_e, ↓DL.wOwn1_e, ↓DL.wIdx_e, ↓DL.isLx_l, ↓DL.hIdx_e, ↓DL.wListRg_e, ↓DL.onRg_e, ↓DL.gInX_d, ↓DL.gInX_l, ↓DL.gInX_t, ↓DL.gInX_s, ↓DL.gIxX_d, ↓DL.gIxX_l, ↓DL.gIxX_t, ↓DL.gIxX_s, ↓DL.gSetX_e, ↓DL.isLD_l, ↓DL.isLD_d, ↓DL.gPutX_l, ↓DL.gPutX_d, ↓DL.wDict1_e, ↓DL.onPair1_e, ↓DL.wDnew_e, ↓DL.sNext, ↓DL.sSeq, ↓DL.sIf, ↓DL.sSet, ↓DL.sAsg, ↓DL.sAug, ↓DL.sRet, ↓DL.sRetN, ↓DL.sDrop, ↓DL.sBreak, ↓DL.sCont, ↓DL.gN, ↓DL.bodyE, ↓DL.wYes, ↓DL.wipeD, ↓DL.sl_0, ↓DL.wiZip_e, ↓DL.onZip_l, ↓DL.onZip_t, ↓DL.wLc_e, ↓DL.sFor_e, ↓DL.sl_s, ↓DL.onBl_bl, ↓DL.onInt_int, ↓DL.onSeq_lst, ↓DL.onSeq_tup, ↓DL.onLst_lst, ↓DL.onOwnL_lst, ↓DL.onStr_str, ↓DL.onMade_non, ↓DL.onSome_some, ↓DL.wVar_e, ↓DL.wMove_e, ↓DL.wC_e, ↓DL.wFz_e, ↓DL.wOp_ww, ↓DL.wOp_vw, ↓DL.wOp_wv, ↓DL.wOp_vv, ↓DL.wUn_w, ↓DL.wUn_v, ↓DL.wOps_n, ↓DL.wOps_w, ↓DL.wOps_v, ↓DL.wCB_e, ↓DL.wL_n, ↓DL.wL_c, ↓DL.wTup_e, ↓DL.wLst_e, ↓DL.wT_e, ↓DL.wNotT_e, ↓DL.wAndT_e, ↓DL.wOrT_e, ↓DL.wIfE_e, ↓DL.wAndV_e, ↓DL.wOrV_e, ↓DL.wNotV_e, ↓DL.wChain_e, ↓DL.wArgs_n, ↓DL.wArgs_w, ↓DL.wArgs_v, ↓DL.takeL_n, ↓DL.takeL_z, ↓DL.takeL_s, ↓DL.backL_n, ↓DL.backL_z, ↓DL.backL_s, ↓DL.callK_e, ↓DL.wCall_e, ↓DL.wRecv_w, ↓DL.wRecv_v, ↓DL.isIns_e, ↓DL.wMeth_e, ↓DL.makeK_e, ↓DL.wMake_e, ↓DL.outP_n, ↓DL.outP_t, ↓DL.outP_f, ↓DL.outP_0, ↓DL.sPar_e, ↓DL.gT_e, ↓DL.gsN_e, ↓DL.gsC_e, ↓DL.wiSeq_e, ↓DL.wiStr_e, ↓DL.wiEnum_e, ↓DL.onInt1_e, ↓DL.onInt2_e, ↓DL.wiRng1_e, ↓DL.wiRng2_e, ↓DL.wLm_e, ↓DL.hApp_e, ↓DL.hExt_e, ↓DL.hIns_e, ↓DL.hPop_e, ↓DL.gSetL_e, ↓DL.wPart_n, ↓DL.wPart_s, ↓DL.wSl_w, ↓DL.wSl_v, ↓DL.gSl_l, ↓DL.gSl_t, ↓DL.gSl_s, ↓DL.wFld_e, ↓DL.fldD_e, ↓DL.sPut_e, ↓DL.putO_e, ↓DL.may_i, ↓DL.may_b, ↓DL.may_s, ↓DL.may_n, ↓DL.may_y, ↓DL.may_f, ↓DL.may_l, ↓DL.may_d, ↓DL.may_t, ↓DL.may_o, ↓DL.may_z, ↓DL.may_r, ↓DL.mayA_n, ↓DL.mayA_c, ↓DL.frz_i, ↓DL.frz_b, ↓DL.frz_s, ↓DL.frz_n, ↓DL.frz_y, ↓DL.frz_f, ↓DL.frz_r, ↓DL.frz_l, ↓DL.frz_d, ↓DL.frz_t, ↓DL.frz_o, ↓DL.frz_z, ↓DL.frzA_n, ↓DL.frzA_c, ↓DL.fz_i, ↓DL.fz_b, ↓DL.fz_s, ↓DL.fz_n, ↓DL.fz_y, ↓DL.fz_f, ↓DL.fz_r, ↓DL.fz_l, ↓DL.fz_d, ↓DL.fz_t, ↓DL.fz_o, ↓DL.fzA_n, ↓DL.fzA_c, ↓DL.flat_i, ↓DL.flat_b, ↓DL.flat_s, ↓DL.flat_n, ↓DL.gI_e, ↓DL.gII_e, ↓DL.gAdd_i, ↓DL.gAdd_s, ↓DL.gAdd_l, ↓DL.gAdd_t, ↓DL.gEq_ii, ↓DL.gEq_ss, ↓DL.gEq_bb, ↓DL.gEq_nn, ↓DL.gEq_ni, ↓DL.gEq_in, ↓DL.gEq_ns, ↓DL.gEq_sn, ↓DL.gNe_ii, ↓DL.gNe_ss, ↓DL.gNe_bb, ↓DL.gNe_nn, ↓DL.gNe_ni, ↓DL.gNe_in, ↓DL.gNe_ns, ↓DL.gNe_sn, ↓DL.gIsN_e, ↓DL.isNon_n, ↓DL.isNon_i, ↓DL.isNon_b, ↓DL.isNon_s, ↓DL.isNon_t, ↓DL.isNon_l, ↓DL.gIsB_e, ↓DL.gIx_l, ↓DL.gIx_t, ↓DL.gIx_s, ↓DL.gLen_l, ↓DL.gLen_t, ↓DL.gLen_s, ↓DL.gInt_i, ↓DL.gInt_b, ↓DL.gList_l, ↓DL.gList_t, ↓DL.gTuple_l, ↓DL.gTuple_t, ↓DL.gAllB_l, ↓DL.gIn_l, ↓DL.gIn_t, ↓DL.gIsi_e, ↓DL.isiD_i, ↓DL.isiD_b, ↓DL.isiD_s, ↓DL.isiD_n, ↓DL.isiD_l, ↓DL.isiD_t, ↓DL.gNeg_e, ↓DL.onTwo_e, ↓DL.argD_z, ↓DL.argD_s, ↓DL.isC_e, ↓DL.isCI_e, ↓DL.isCI_i, ↓DL.wInOwn_e, ↓DL.wOwn_e, List.set_cons_zero, List.set_cons_succ, List.map_cons, List.map_nil, List.cons_append, List.nil_append, List.replicate_succ, List.replicate_zero, List.foldl_cons, List.foldl_nil, List.zip_cons_cons, List.zip_nil_left, cond_true, cond_false, List.tail_cons, List.length_cons, List.length_nil, Nat.zero_le, Nat.reduceAdd, Nat.reduceSub, Nat.reduceLeDiff, decide_true, decide_false, Bool.and_true, Bool.true_and, Bool.and_self, Bool.not_true, Bool.not_false, if_true, ite_true, ite_false, Bool.false_eq_true, true_and, and_true, implies_true])
namespace Lw
open PySem PySem.Spec PyProof.Rows L2 PB
def topS (i : Nat) : Stmt := PySem.Challenge.pw_pairahead_k53_rivals_refused.main.body.getD i (.Pass ⟨0, 0, 0, 0⟩)
def d_Rival_DinitD : PB.DefP := ⟨fun K => (He.ma K (He.ga K "Rival") "__init__"), "__init__", "Rival.__init__", defArgs (inClass (topS 6) 0), defBody (inClass (topS 6) 0), defScope (inClass (topS 6) 0), [], false⟩
def d_Rival_order : PB.DefP := ⟨fun K => (PB.pga K (He.ga K "Rival") "order"), "order", "Rival.order", defArgs (inClass (topS 6) 3), defBody (inClass (topS 6) 3), defScope (inClass (topS 6) 3), [], false⟩
def d_Rival_call : PB.DefP := ⟨fun K => (He.ma K (He.ga K "Rival") "call"), "call", "Rival.call", defArgs (inClass (topS 6) 4), defBody (inClass (topS 6) 4), defScope (inClass (topS 6) 4), [.non], false⟩
def d_Rival_exchange : PB.DefP := ⟨fun K => (He.ma K (He.ga K "Rival") "exchange"), "exchange", "Rival.exchange", defArgs (inClass (topS 6) 5), defBody (inClass (topS 6) 5), defScope (inClass (topS 6) 5), [], false⟩
def d_Rival_put : PB.DefP := ⟨fun K => (He.ma K (He.ga K "Rival") "put"), "put", "Rival.put", defArgs (inClass (topS 6) 6), defBody (inClass (topS 6) 6), defScope (inClass (topS 6) 6), [], false⟩
def d_Rival_drop : PB.DefP := ⟨fun K => (He.ma K (He.ga K "Rival") "drop"), "drop", "Rival.drop", defArgs (inClass (topS 6) 7), defBody (inClass (topS 6) 7), defScope (inClass (topS 6) 7), [], false⟩
def d_place_of : PB.DefP := ⟨fun K => (He.ga K "place_of"), "place_of", "place_of", defArgs (topS 7), defBody (topS 7), defScope (topS 7), [], false⟩
def d_l_draw : PB.DefP := ⟨fun K => (He.ga K "_law_draw"), "_law_draw", "_law_draw", defArgs (topS 9), defBody (topS 9), defScope (topS 9), [], false⟩
def d_l_start : PB.DefP := ⟨fun K => (He.ga K "_law_start"), "_law_start", "_law_start", defArgs (topS 10), defBody (topS 10), defScope (topS 10), [], false⟩
def d_l_pick : PB.DefP := ⟨fun K => (He.ga K "_law_pick"), "_law_pick", "_law_pick", defArgs (topS 11), defBody (topS 11), defScope (topS 11), [], false⟩
def d_l_mixed : PB.DefP := ⟨fun K => (He.ga K "_law_mixed"), "_law_mixed", "_law_mixed", defArgs (topS 12), defBody (topS 12), defScope (topS 12), [], false⟩
def d_l_same : PB.DefP := ⟨fun K => (He.ga K "_law_same"), "_law_same", "_law_same", defArgs (topS 13), defBody (topS 13), defScope (topS 13), [], false⟩
def d_l_p_names : PB.DefP := ⟨fun K => (He.ga K "_law_p_names"), "_law_p_names", "_law_p_names", defArgs (topS 14), defBody (topS 14), defScope (topS 14), [], false⟩
def d_l_p_move : PB.DefP := ⟨fun K => (He.ga K "_law_p_move"), "_law_p_move", "_law_p_move", defArgs (topS 15), defBody (topS 15), defScope (topS 15), [], false⟩
def d_law : PB.DefP := ⟨fun K => (He.ga K "law"), "law", "law", defArgs (topS 16), defBody (topS 16), defScope (topS 16), [], false⟩
def d_NoCase_DinitD : PB.DefP := ⟨fun K => He.ma K (He.ga K "NoCase") "__init__", "__init__", "NoCase.__init__", defArgs (inClass (topS 2) 0), defBody (inClass (topS 2) 0), defScope (inClass (topS 2) 0), [], true⟩
def d_CaseThere_DinitD : PB.DefP := ⟨fun K => He.ma K (He.ga K "CaseThere") "__init__", "__init__", "CaseThere.__init__", defArgs (inClass (topS 3) 0), defBody (inClass (topS 3) 0), defScope (inClass (topS 3) 0), [], true⟩
def d_InvalidMove_DinitD : PB.DefP := ⟨fun K => He.ma K (He.ga K "InvalidMove") "__init__", "__init__", "InvalidMove.__init__", defArgs (inClass (topS 4) 0), defBody (inClass (topS 4) 0), defScope (inClass (topS 4) 0), [], true⟩
def fn : List PB.DefP := [d_Rival_DinitD, d_Rival_order, d_Rival_call, d_Rival_exchange, d_Rival_put, d_Rival_drop, d_place_of, d_l_draw, d_l_start, d_l_pick, d_l_mixed, d_l_same, d_l_p_names, d_l_p_move, d_law, d_NoCase_DinitD, d_CaseThere_DinitD, d_InvalidMove_DinitD]
def bs : List (PySem.W.Frag → Bool) := [fun K => He.Fa.ok K (.glo "NoCase"), fun K => He.Fa.ok K (.glo "CaseThere"), fun K => He.Fa.ok K (.glo "InvalidMove"), fun K => He.Fa.ok K (.glo "Rival"), fun K => He.Fa.ok K (.glo "place_of"), fun K => He.Fa.ok K (.glo "_law_draw"), fun K => He.Fa.ok K (.glo "_law_start"), fun K => He.Fa.ok K (.glo "_law_pick"), fun K => He.Fa.ok K (.glo "_law_mixed"), fun K => He.Fa.ok K (.glo "_law_same"), fun K => He.Fa.ok K (.glo "_law_p_names"), fun K => He.Fa.ok K (.glo "_law_p_move"), fun K => He.Fa.ok K (.glo "law"), fun K => He.Fa.ok K (.free "all"), fun K => He.Fa.ok K (.free "bool"), fun K => He.Fa.ok K (.free "int"), fun K => He.Fa.ok K (.free "isinstance"), fun K => He.Fa.ok K (.free "len"), fun K => He.Fa.ok K (.free "list"), fun K => He.Fa.ok K (.free "range"), fun K => He.Fa.ok K (.free "super"), fun K => He.Fa.ok K (.free "tuple"), fun K => He.Fa.ok K (.free "zip"), fun K => He.Fa.ok K (.cls "Rival"), fun K => He.Fa.ok K (.mkr "Rival"), PB.propB "Rival" "order", fun K => He.Fa.ok K (.meth "Rival" "call"), fun K => He.Fa.ok K (.meth "Rival" "exchange"), fun K => He.Fa.ok K (.meth "Rival" "put"), fun K => He.Fa.ok K (.meth "Rival" "drop"), fun K => He.Fa.ok K (.noat "Rival" "names"), fun K => He.Fa.ok K (.noat "Rival" "cost"), PB.supB "NoCase" ["name"] PySem.Challenge.pw_pairahead_k53_rivals_refused.main.file, fun K => L2.xfB K (He.ga K "NoCase"), PB.supB "CaseThere" ["name"] PySem.Challenge.pw_pairahead_k53_rivals_refused.main.file, fun K => L2.xfB K (He.ga K "CaseThere"), PB.supB "InvalidMove" ["place"] PySem.Challenge.pw_pairahead_k53_rivals_refused.main.file, fun K => L2.xfB K (He.ga K "InvalidMove"), DL.isxB ["Rival"], PB.exmB ["NoCase", "CaseThere", "InvalidMove"] ["NoCase"], PB.exmB ["NoCase", "CaseThere", "InvalidMove"] ["CaseThere"], PB.exmB ["NoCase", "CaseThere", "InvalidMove"] ["InvalidMove"]]
structure Tx (P : Program) (K : PySem.W.Frag) (mg : Str → Option Value) : Prop where
  pf : PB.PFile P PySem.Challenge.pw_pairahead_k53_rivals_refused
  d_Rival_DinitD : ∃ fd, FunD K "__init__" "Rival.__init__" (defArgs (inClass (topS 6) 0)) (defBody (inClass (topS 6) 0)) (defScope (inClass (topS 6) 0)) [] [] (He.ma K (He.ga K "Rival") "__init__") fd
  d_Rival_order : ∃ fd, FunD K "order" "Rival.order" (defArgs (inClass (topS 6) 3)) (defBody (inClass (topS 6) 3)) (defScope (inClass (topS 6) 3)) [] [] (PB.pga K (He.ga K "Rival") "order") fd
  d_Rival_call : ∃ fd, FunD K "call" "Rival.call" (defArgs (inClass (topS 6) 4)) (defBody (inClass (topS 6) 4)) (defScope (inClass (topS 6) 4)) [V.non] [] (He.ma K (He.ga K "Rival") "call") fd
  d_Rival_exchange : ∃ fd, FunD K "exchange" "Rival.exchange" (defArgs (inClass (topS 6) 5)) (defBody (inClass (topS 6) 5)) (defScope (inClass (topS 6) 5)) [] [] (He.ma K (He.ga K "Rival") "exchange") fd
  d_Rival_put : ∃ fd, FunD K "put" "Rival.put" (defArgs (inClass (topS 6) 6)) (defBody (inClass (topS 6) 6)) (defScope (inClass (topS 6) 6)) [] [] (He.ma K (He.ga K "Rival") "put") fd
  d_Rival_drop : ∃ fd, FunD K "drop" "Rival.drop" (defArgs (inClass (topS 6) 7)) (defBody (inClass (topS 6) 7)) (defScope (inClass (topS 6) 7)) [] [] (He.ma K (He.ga K "Rival") "drop") fd
  d_place_of : ∃ fd, FunD K "place_of" "place_of" (defArgs (topS 7)) (defBody (topS 7)) (defScope (topS 7)) [] [] (He.ga K "place_of") fd
  d_l_draw : ∃ fd, FunD K "_law_draw" "_law_draw" (defArgs (topS 9)) (defBody (topS 9)) (defScope (topS 9)) [] [] (He.ga K "_law_draw") fd
  d_l_start : ∃ fd, FunD K "_law_start" "_law_start" (defArgs (topS 10)) (defBody (topS 10)) (defScope (topS 10)) [] [] (He.ga K "_law_start") fd
  d_l_pick : ∃ fd, FunD K "_law_pick" "_law_pick" (defArgs (topS 11)) (defBody (topS 11)) (defScope (topS 11)) [] [] (He.ga K "_law_pick") fd
  d_l_mixed : ∃ fd, FunD K "_law_mixed" "_law_mixed" (defArgs (topS 12)) (defBody (topS 12)) (defScope (topS 12)) [] [] (He.ga K "_law_mixed") fd
  d_l_same : ∃ fd, FunD K "_law_same" "_law_same" (defArgs (topS 13)) (defBody (topS 13)) (defScope (topS 13)) [] [] (He.ga K "_law_same") fd
  d_l_p_names : ∃ fd, FunD K "_law_p_names" "_law_p_names" (defArgs (topS 14)) (defBody (topS 14)) (defScope (topS 14)) [] [] (He.ga K "_law_p_names") fd
  d_l_p_move : ∃ fd, FunD K "_law_p_move" "_law_p_move" (defArgs (topS 15)) (defBody (topS 15)) (defScope (topS 15)) [] [] (He.ga K "_law_p_move") fd
  d_law : ∃ fd, FunD K "law" "law" (defArgs (topS 16)) (defBody (topS 16)) (defScope (topS 16)) [] [] (He.ga K "law") fd
  g_NoCase : mg "NoCase" = some (.ref (He.ga K "NoCase"))
  g_CaseThere : mg "CaseThere" = some (.ref (He.ga K "CaseThere"))
  g_InvalidMove : mg "InvalidMove" = some (.ref (He.ga K "InvalidMove"))
  g_Rival : mg "Rival" = some (.ref (He.ga K "Rival"))
  g_place_of : mg "place_of" = some (.ref (He.ga K "place_of"))
  g_l_draw : mg "_law_draw" = some (.ref (He.ga K "_law_draw"))
  g_l_start : mg "_law_start" = some (.ref (He.ga K "_law_start"))
  g_l_pick : mg "_law_pick" = some (.ref (He.ga K "_law_pick"))
  g_l_mixed : mg "_law_mixed" = some (.ref (He.ga K "_law_mixed"))
  g_l_same : mg "_law_same" = some (.ref (He.ga K "_law_same"))
  g_l_p_names : mg "_law_p_names" = some (.ref (He.ga K "_law_p_names"))
  g_l_p_move : mg "_law_p_move" = some (.ref (He.ga K "_law_p_move"))
  g_law : mg "law" = some (.ref (He.ga K "law"))
  f_all : mg "all" = none
  f_bool : mg "bool" = none
  f_int : mg "int" = none
  f_isinstance : mg "isinstance" = none
  f_len : mg "len" = none
  f_list : mg "list" = none
  f_range : mg "range" = none
  f_super : mg "super" = none
  f_tuple : mg "tuple" = none
  f_zip : mg "zip" = none
  cls_Rival : Cls K (He.ga K "Rival")
  mk_Rival : Mk K (He.ga K "Rival") (He.ma K (He.ga K "Rival") "__init__")
  prop_Rival_order : PropOf K (He.ga K "Rival") "order" (He.ma K (He.ga K "Rival") "order") (PB.pga K (He.ga K "Rival") "order")
  meth_Rival_call : Meth K (He.ga K "Rival") "call" (He.ma K (He.ga K "Rival") "call")
  meth_Rival_exchange : Meth K (He.ga K "Rival") "exchange" (He.ma K (He.ga K "Rival") "exchange")
  meth_Rival_put : Meth K (He.ga K "Rival") "put" (He.ma K (He.ga K "Rival") "put")
  meth_Rival_drop : Meth K (He.ga K "Rival") "drop" (He.ma K (He.ga K "Rival") "drop")
  noat_Rival_names : NoAttr K (He.ga K "Rival") "names"
  noat_Rival_cost : NoAttr K (He.ga K "Rival") "cost"
  x_NoCase : PB.ExF K PySem.Challenge.pw_pairahead_k53_rivals_refused.main.file "NoCase" ["name"] "NoCase.__init__" (defArgs (inClass (topS 2) 0)) (defBody (inClass (topS 2) 0)) (defScope (inClass (topS 2) 0))
  xf_NoCase : L2.XfC K (He.ga K "NoCase")
  x_CaseThere : PB.ExF K PySem.Challenge.pw_pairahead_k53_rivals_refused.main.file "CaseThere" ["name"] "CaseThere.__init__" (defArgs (inClass (topS 3) 0)) (defBody (inClass (topS 3) 0)) (defScope (inClass (topS 3) 0))
  xf_CaseThere : L2.XfC K (He.ga K "CaseThere")
  x_InvalidMove : PB.ExF K PySem.Challenge.pw_pairahead_k53_rivals_refused.main.file "InvalidMove" ["place"] "InvalidMove.__init__" (defArgs (inClass (topS 4) 0)) (defBody (inClass (topS 4) 0)) (defScope (inClass (topS 4) 0))
  xf_InvalidMove : L2.XfC K (He.ga K "InvalidMove")
  isx : DL.IsiAll K ["Rival"]
  exm_NoCase : PB.ExmI K ["NoCase", "CaseThere", "InvalidMove"] ["NoCase"]
  exm_CaseThere : PB.ExmI K ["NoCase", "CaseThere", "InvalidMove"] ["CaseThere"]
  exm_InvalidMove : PB.ExmI K ["NoCase", "CaseThere", "InvalidMove"] ["InvalidMove"]
theorem tx_of {P : Program} {K : PySem.W.Frag} {h : Heap} {mg : Str → Option Value} (hP : PB.PFile P PySem.Challenge.pw_pairahead_k53_rivals_refused) (X : K.In h) (G : h.Ns mainGlobals mg) (c : PB.SaysQ fn bs K) : Tx P K mg :=
  { pf := hP,
    d_Rival_DinitD := c.def_ 0 (d := d_Rival_DinitD) rfl,
    d_Rival_order := c.def_ 1 (d := d_Rival_order) rfl,
    d_Rival_call := c.def_ 2 (d := d_Rival_call) rfl,
    d_Rival_exchange := c.def_ 3 (d := d_Rival_exchange) rfl,
    d_Rival_put := c.def_ 4 (d := d_Rival_put) rfl,
    d_Rival_drop := c.def_ 5 (d := d_Rival_drop) rfl,
    d_place_of := c.def_ 6 (d := d_place_of) rfl,
    d_l_draw := c.def_ 7 (d := d_l_draw) rfl,
    d_l_start := c.def_ 8 (d := d_l_start) rfl,
    d_l_pick := c.def_ 9 (d := d_l_pick) rfl,
    d_l_mixed := c.def_ 10 (d := d_l_mixed) rfl,
    d_l_same := c.def_ 11 (d := d_l_same) rfl,
    d_l_p_names := c.def_ 12 (d := d_l_p_names) rfl,
    d_l_p_move := c.def_ 13 (d := d_l_p_move) rfl,
    d_law := c.def_ 14 (d := d_law) rfl,
    g_NoCase := He.glo_ok X G (c.bool 0 (b := fun K => He.Fa.ok K (.glo "NoCase")) rfl),
    g_CaseThere := He.glo_ok X G (c.bool 1 (b := fun K => He.Fa.ok K (.glo "CaseThere")) rfl),
    g_InvalidMove := He.glo_ok X G (c.bool 2 (b := fun K => He.Fa.ok K (.glo "InvalidMove")) rfl),
    g_Rival := He.glo_ok X G (c.bool 3 (b := fun K => He.Fa.ok K (.glo "Rival")) rfl),
    g_place_of := He.glo_ok X G (c.bool 4 (b := fun K => He.Fa.ok K (.glo "place_of")) rfl),
    g_l_draw := He.glo_ok X G (c.bool 5 (b := fun K => He.Fa.ok K (.glo "_law_draw")) rfl),
    g_l_start := He.glo_ok X G (c.bool 6 (b := fun K => He.Fa.ok K (.glo "_law_start")) rfl),
    g_l_pick := He.glo_ok X G (c.bool 7 (b := fun K => He.Fa.ok K (.glo "_law_pick")) rfl),
    g_l_mixed := He.glo_ok X G (c.bool 8 (b := fun K => He.Fa.ok K (.glo "_law_mixed")) rfl),
    g_l_same := He.glo_ok X G (c.bool 9 (b := fun K => He.Fa.ok K (.glo "_law_same")) rfl),
    g_l_p_names := He.glo_ok X G (c.bool 10 (b := fun K => He.Fa.ok K (.glo "_law_p_names")) rfl),
    g_l_p_move := He.glo_ok X G (c.bool 11 (b := fun K => He.Fa.ok K (.glo "_law_p_move")) rfl),
    g_law := He.glo_ok X G (c.bool 12 (b := fun K => He.Fa.ok K (.glo "law")) rfl),
    f_all := He.free_ok X G (c.bool 13 (b := fun K => He.Fa.ok K (.free "all")) rfl),
    f_bool := He.free_ok X G (c.bool 14 (b := fun K => He.Fa.ok K (.free "bool")) rfl),
    f_int := He.free_ok X G (c.bool 15 (b := fun K => He.Fa.ok K (.free "int")) rfl),
    f_isinstance := He.free_ok X G (c.bool 16 (b := fun K => He.Fa.ok K (.free "isinstance")) rfl),
    f_len := He.free_ok X G (c.bool 17 (b := fun K => He.Fa.ok K (.free "len")) rfl),
    f_list := He.free_ok X G (c.bool 18 (b := fun K => He.Fa.ok K (.free "list")) rfl),
    f_range := He.free_ok X G (c.bool 19 (b := fun K => He.Fa.ok K (.free "range")) rfl),
    f_super := He.free_ok X G (c.bool 20 (b := fun K => He.Fa.ok K (.free "super")) rfl),
    f_tuple := He.free_ok X G (c.bool 21 (b := fun K => He.Fa.ok K (.free "tuple")) rfl),
    f_zip := He.free_ok X G (c.bool 22 (b := fun K => He.Fa.ok K (.free "zip")) rfl),
    cls_Rival := He.cls_ok (c.bool 23 (b := fun K => He.Fa.ok K (.cls "Rival")) rfl),
    mk_Rival := He.mkr_ok (c.bool 24 (b := fun K => He.Fa.ok K (.mkr "Rival")) rfl),
    prop_Rival_order := PB.prop_of (c.bool 25 (b := PB.propB "Rival" "order") rfl),
    meth_Rival_call := He.meth_ok (c.bool 26 (b := fun K => He.Fa.ok K (.meth "Rival" "call")) rfl),
    meth_Rival_exchange := He.meth_ok (c.bool 27 (b := fun K => He.Fa.ok K (.meth "Rival" "exchange")) rfl),
    meth_Rival_put := He.meth_ok (c.bool 28 (b := fun K => He.Fa.ok K (.meth "Rival" "put")) rfl),
    meth_Rival_drop := He.meth_ok (c.bool 29 (b := fun K => He.Fa.ok K (.meth "Rival" "drop")) rfl),
    noat_Rival_names := He.noat_ok (c.bool 30 (b := fun K => He.Fa.ok K (.noat "Rival" "names")) rfl),
    noat_Rival_cost := He.noat_ok (c.bool 31 (b := fun K => He.Fa.ok K (.noat "Rival" "cost")) rfl),
    x_NoCase := PB.exF_of (c.bool 32 (b := PB.supB "NoCase" ["name"] PySem.Challenge.pw_pairahead_k53_rivals_refused.main.file) rfl) (c.defC 15 (d := d_NoCase_DinitD) rfl),
    xf_NoCase := L2.xfB_ok (c.bool 33 (b := fun K => L2.xfB K (He.ga K "NoCase")) rfl),
    x_CaseThere := PB.exF_of (c.bool 34 (b := PB.supB "CaseThere" ["name"] PySem.Challenge.pw_pairahead_k53_rivals_refused.main.file) rfl) (c.defC 16 (d := d_CaseThere_DinitD) rfl),
    xf_CaseThere := L2.xfB_ok (c.bool 35 (b := fun K => L2.xfB K (He.ga K "CaseThere")) rfl),
    x_InvalidMove := PB.exF_of (c.bool 36 (b := PB.supB "InvalidMove" ["place"] PySem.Challenge.pw_pairahead_k53_rivals_refused.main.file) rfl) (c.defC 17 (d := d_InvalidMove_DinitD) rfl),
    xf_InvalidMove := L2.xfB_ok (c.bool 37 (b := fun K => L2.xfB K (He.ga K "InvalidMove")) rfl),
    isx := DL.isx_of (c.bool 38 (b := DL.isxB ["Rival"]) rfl),
    exm_NoCase := PB.exm_of (c.bool 39 (b := PB.exmB ["NoCase", "CaseThere", "InvalidMove"] ["NoCase"]) rfl),
    exm_CaseThere := PB.exm_of (c.bool 40 (b := PB.exmB ["NoCase", "CaseThere", "InvalidMove"] ["CaseThere"]) rfl),
    exm_InvalidMove := PB.exm_of (c.bool 41 (b := PB.exmB ["NoCase", "CaseThere", "InvalidMove"] ["InvalidMove"]) rfl) }
theorem sx_NoCase : PB.SupScope ["self", "name"] ["self", "name"] (defScope (inClass (topS 2) 0)) := ⟨rfl, rfl, rfl, by decide, rfl, by decide, by decide, by decide, rfl, rfl⟩
theorem okX_NoCase {P : Program} {w : World} {K : PySem.W.Frag} {mg : Str → Option Value} {base : Heap} (T : Tx P K mg) : PB.OkX P w K mg base 2 "NoCase" ["name"] := PB.okX1 T.x_NoCase T.pf sx_NoCase T.g_NoCase T.f_super rfl rfl (fun L f cda cc => rfl) (fun kV doc pm an cda ct cc us hl => match us, hl with | [_, _], _ => rfl) rfl rfl
theorem sx_CaseThere : PB.SupScope ["self", "name"] ["self", "name"] (defScope (inClass (topS 3) 0)) := ⟨rfl, rfl, rfl, by decide, rfl, by decide, by decide, by decide, rfl, rfl⟩
theorem okX_CaseThere {P : Program} {w : World} {K : PySem.W.Frag} {mg : Str → Option Value} {base : Heap} (T : Tx P K mg) : PB.OkX P w K mg base 2 "CaseThere" ["name"] := PB.okX1 T.x_CaseThere T.pf sx_CaseThere T.g_CaseThere T.f_super rfl rfl (fun L f cda cc => rfl) (fun kV doc pm an cda ct cc us hl => match us, hl with | [_, _], _ => rfl) rfl rfl
theorem sx_InvalidMove : PB.SupScope ["self", "place"] ["self", "place"] (defScope (inClass (topS 4) 0)) := ⟨rfl, rfl, rfl, by decide, rfl, by decide, by decide, by decide, rfl, rfl⟩
theorem okX_InvalidMove {P : Program} {w : World} {K : PySem.W.Frag} {mg : Str → Option Value} {base : Heap} (T : Tx P K mg) : PB.OkX P w K mg base 2 "InvalidMove" ["place"] := PB.okX1 T.x_InvalidMove T.pf sx_InvalidMove T.g_InvalidMove T.f_super rfl rfl (fun L f cda cc => rfl) (fun kV doc pm an cda ct cc us hl => match us, hl with | [_, _], _ => rfl) rfl rfl
theorem sc_Rival_DinitD : FnScope ["self", "names"] ["self", "names"] (defScope (inClass (topS 6) 0)) := ⟨rfl, rfl, rfl, by decide +kernel, rfl, by decide +kernel, by decide +kernel⟩
theorem sc_Rival_order : FnScope ["self"] ["self"] (defScope (inClass (topS 6) 3)) := ⟨rfl, rfl, rfl, by decide +kernel, rfl, by decide +kernel, by decide +kernel⟩
theorem sc_Rival_call : FnScope ["self", "name", "to", "place"] ["self", "name", "to"] (defScope (inClass (topS 6) 4)) := ⟨rfl, rfl, rfl, by decide +kernel, rfl, by decide +kernel, by decide +kernel⟩
theorem sc_Rival_exchange : FnScope ["self", "at"] ["self", "at"] (defScope (inClass (topS 6) 5)) := ⟨rfl, rfl, rfl, by decide +kernel, rfl, by decide +kernel, by decide +kernel⟩
theorem sc_Rival_put : FnScope ["self", "name", "at"] ["self", "name", "at"] (defScope (inClass (topS 6) 6)) := ⟨rfl, rfl, rfl, by decide +kernel, rfl, by decide +kernel, by decide +kernel⟩
theorem sc_Rival_drop : FnScope ["self", "name"] ["self", "name"] (defScope (inClass (topS 6) 7)) := ⟨rfl, rfl, rfl, by decide +kernel, rfl, by decide +kernel, by decide +kernel⟩
theorem sc_place_of : FnScope ["names", "name"] ["names", "name"] (defScope (topS 7)) := ⟨rfl, rfl, rfl, by decide +kernel, rfl, by decide +kernel, by decide +kernel⟩
theorem sc_l_draw : FnScope ["_law_stream", "_law_many", "_law_digit", "_law_mixed_here"] ["_law_stream", "_law_many"] (defScope (topS 9)) := ⟨rfl, rfl, rfl, by decide +kernel, rfl, by decide +kernel, by decide +kernel⟩
theorem sc_l_start : FnScope ["_law_script"] ["_law_script"] (defScope (topS 10)) := ⟨rfl, rfl, rfl, by decide +kernel, rfl, by decide +kernel, by decide +kernel⟩
theorem sc_l_pick : FnScope ["_law_stream", "_law_some"] ["_law_stream", "_law_some"] (defScope (topS 11)) := ⟨rfl, rfl, rfl, by decide +kernel, rfl, by decide +kernel, by decide +kernel⟩
theorem sc_l_mixed : FnScope ["_law_stream", "_law_some", "_law_left", "_law_k"] ["_law_stream", "_law_some"] (defScope (topS 12)) := ⟨rfl, rfl, rfl, by decide +kernel, rfl, by decide +kernel, by decide +kernel⟩
theorem sc_l_same : FnScope ["_law_found", "_law_due", "_law_one", "_law_other"] ["_law_found", "_law_due"] (defScope (topS 13)) := ⟨rfl, rfl, rfl, by decide +kernel, rfl, by decide +kernel, by decide +kernel⟩
theorem sc_l_p_names : FnScope ["_law_stream", "_law_many", "_law_some"] ["_law_stream", "_law_many"] (defScope (topS 14)) := ⟨rfl, rfl, rfl, by decide +kernel, rfl, by decide +kernel, by decide +kernel⟩
theorem sc_l_p_move : FnScope ["_law_rival", "_law_move", "error"] ["_law_rival", "_law_move"] (defScope (topS 15)) := ⟨rfl, rfl, rfl, by decide +kernel, rfl, by decide +kernel, by decide +kernel⟩
theorem sc_law : FnScope ["_law_script", "_law_stream", "_law_pool", "_law_rival", "_law_size", "_law_name", "_law_turn", "_law_names", "_law_to", "_law_cost", "_law_one", "_law_other", "_law_far", "_law_place", "_law_bad", "_law_move", "_law_due"] ["_law_script"] (defScope (topS 16)) := ⟨rfl, rfl, rfl, by decide +kernel, rfl, by decide +kernel, by decide +kernel⟩
end Lw
namespace Lw
open PySem PySem.Spec PyProof.Rows L2 PB
abbrev R : PySem.W.OpenRow := PySem.W.OpenLaw.row PySem.Challenge.rw_pairahead_k53_rivals_refused
abbrev hk : PySem.W.Hook := PB.hookQ 6 fn bs
def ob (s : PySem.W.SharedT) : PB.AlQ := PB.obsQ 6 fn bs (HandSHeadRun.getT s)
theorem ob_eq (s : PySem.W.SharedT) : ob s = hk.obs s.abs := PB.obsQ_eq (HandSHeadRun.getT_eq s)
def loose : List PySem.Str := (["PairError", "NoCase", "CaseThere", "InvalidMove", "Rival", "place_of", "_law_draw", "_law_start", "_law_pick", "_law_mixed", "_law_same", "_law_p_names", "_law_p_move"] : List PySem.Str)
theorem run (w : World) : HandSHeadRun.RunEq R (PySem.W.view R.prog [16]) hk ob 3000 loose w := by
  intro os
  kernel_rfl
end Lw
namespace Lw
open PySem PySem.Spec PyProof.Rows L2 PB
theorem ok_l_draw {P : Program} {w : World} {K : PySem.W.Frag} {mg : Str → Option Value} {base : Heap} (T : Tx P K mg) : OkF P w K mg base CX0 1 "_law_draw" ["_law_stream", "_law_many"] [] (spDraw) := by
  obtain ⟨fd, F⟩ := T.d_l_draw
  refine ⟨fd, [], F.ok sc_l_draw (fun vs H Q E h => ?len) (fun cdv A outer s H vs Q E hr h => ?body), T.g_l_draw, F.kp, F.bindsN fun _ _ _ _ _ _ us hl => match us, hl with | [_, _], _ => rfl, .nil⟩
  case len =>
    obtain ⟨S, l, n, many, rfl, _⟩ := h
    rfl
  case body =>
    obtain ⟨S, l, n, many, rfl, hm0, hmb, hn, ⟨hne, rest, c, m, q0, hq, hS, hl, hlen, hm1, hm2⟩, q⟩ := h
    have hne' : l ≠ S := Ne.symm hne
    refine ⟨_, PSs.nox (pss_cons (ps_asg (pe_op op_add (pe_ix (PB.ix_listK (K := K)) (pv 0) pe_int (fun _ _ => rfl)) pe_int) (pg_sub (pv 0) pe_int set_list))
      (C8.pss_cut (ps_if (PW.pt (pw_and (pt_cmpR op_eq (pe_ix (PB.ix_listK (K := K)) (pv 0) pe_int (fun _ _ => rfl)) pe_int (nomark _)) (pw_and1 (pt_cmpR (op_neD (hr64 hr)) (pe_ix (PB.ix_listK (K := K)) (pv 0) pe_int (fun _ _ => rfl)) (pe_lst pa_nil) (nomark _))))) (pss_cons (ps_asg (PB.pe_bmK (K := K) PySem.F.plainAttrs_list PySem.F.slot_list_pop PySem.F.type_list_pop mt_popAt (pe_ix (PB.ix_listK (K := K)) (pv 0) pe_int (fun _ _ => rfl)) (pa_cons pe_int pa_nil)) (pg_sub (pv 0) pe_int set_list))
      (pss_one (ps_if (pt_cmpR op_lt (pe_ix (PB.ix_listK (K := K)) (pv 0) pe_int (fun _ _ => rfl)) (pe_op op_pow pe_int pe_int) (nomark _)) (pss_cons (ps_asg (pe_op op_mod (pe_callTy call_int1 (by rfl) T.f_int (by decide +kernel) (pa_cons (pe_op op_add (pe_op op_add (pe_op op_mulW (pe_ix (PB.ix_listK (K := K)) (pv 0) pe_int (fun _ _ => rfl)) pe_int) (pe_ix (PB.ix_listK (K := K)) (pv 0) pe_int (fun _ _ => rfl))) pe_int) pa_nil)) pe_int) (pg_sub (pv 0) pe_int set_list))
      (pss_one (ps_asg pe_int (pg_sub (pv 0) pe_int set_list)))) pss_nil))) pss_nil)
      (pss_cons (ps_if (pt_cmpR op_gt (pe_ix (PB.ix_listK (K := K)) (pv 0) pe_int (fun _ _ => rfl)) pe_int (nomark _)) (pss_cons (ps_set (i := 2) sc_l_draw.nd rfl (Or.inl rfl) (pe_op op_mod (pe_callTy call_int1 (by rfl) T.f_int (by decide +kernel) (pa_cons (pe_ix (PB.ix_listK (K := K)) (pv 0) pe_int (fun _ _ => rfl)) pa_nil)) (pv 1)))
      (pss_cons (ps_asg (pe_op PB.op_fdivG (pe_ix (PB.ix_listK (K := K)) (pv 0) pe_int (fun _ _ => rfl)) (pv 1)) (pg_sub (pv 0) pe_int set_list))
      (pss_one (ps_ret (pv 2))))) pss_nil)
      (pss_cons (ps_set (i := 3) sc_l_draw.nd rfl (Or.inl rfl) (pe_op op_mod (pe_op op_pow (pe_op op_add (pe_op op_add (pe_ix (PB.ix_listK (K := K)) (pv 0) pe_int (fun _ _ => rfl)) (pe_op op_mulW pe_int (pe_ix (PB.ix_listK (K := K)) (pv 0) pe_int (fun _ _ => rfl)))) pe_int) pe_int) pe_int))
      (pss_one (ps_ret (pe_op op_mod (pe_op op_mod (pe_op op_pow (pe_op op_add (pe_op op_add (pe_op op_mulW (pv 3) pe_int) (pe_op op_mulW (pe_op op_mulW pe_int (pe_ix (PB.ix_listK (K := K)) (pv 0) pe_int (fun _ _ => rfl))) (pe_ix (PB.ix_listK (K := K)) (pv 0) pe_int (fun _ _ => rfl)))) pe_int) pe_int) pe_int) (pv 1)))))))), ?_⟩
    try dsimp only [cxOf, Cx.nox, Cx.wish]
    rw [show ∀ z0 z1 : V, L2.start ["_law_stream", "_law_many", "_law_digit", "_law_mixed_here"] [z0, z1] = [some z0, some z1, none, none] from fun _ _ => rfl]
    walk_at "pb"
    refine i_ixL (SqL.of hS) rfl ?_
    walk_at "pb"
    refine i_setL hS rfl fun H1 k1 hS => ?_
    replace hl := k1.at_ _ _ (by simpa using hne') hl
    replace k1 : Keep [S, l] H H1 := k1.mono (by simp)
    replace hS : H1 S = some (.lst [.ref l, .int c, .int ((q0 + 1 : Nat) : Int), .int m]) := hS
    refine i_cut (fun σ' H' => σ' = [some (.ref S), some (.int many), none, none] ∧ Keep [S, l] H H' ∧ ∃ (rest : List Int) (c m : Int), H' S = some (.lst [.ref l, .int c, .int ((q0 + 1 : Nat) : Int), .int m]) ∧ H' l = some (.lst (rest.map V.int)) ∧ rest.length ≤ 63 ∧ 0 ≤ m ∧ m < 2147483647) ?_ ?_
    · walk_at "pb"
      refine i_ixL (SqL.of hS) rfl ?_
      walk_at "pb"
      refine b_eqI (fun hc => ?_) (fun hc => ?_)
      · subst hc
        walk_at "pb"
        refine i_ixL (SqL.of hS) rfl ?_
        walk_at "pb"
        refine i_lstR (by walk_at "sz") fun p H2 hp k2 hp2 => ?_
        replace hl := k2.at_ _ _ (by simp) hl
        replace hS := k2.at_ _ _ (by simp) hS
        replace k2 : Keep [S, l] H H2 := k1.trans k2.same
        refine i_neNil hl hp2 ?_
        walk_at "pb"
        refine b_nbool (fun he => ?_) (fun he => ?_)
        · obtain ⟨x, rest, rfl⟩ : ∃ x r, rest = x :: r := by
            cases rest with
            | nil => simp at he
            | cons x r => exact ⟨x, r, rfl⟩
          walk_at "pb"
          refine i_ixL (SqL.of hS) rfl ?_
          refine i_tyL (SqL.of hl) ?_
          walk_at "pb"
          refine i_pop0 hl fun H3 k3 hl => ?_
          replace hS := k3.at_ S _ (by simpa using hne) hS
          replace k3 : Keep [S, l] H H3 := k2.trans (k3.mono (by simp))
          walk_at "pb"
          refine i_setL hS rfl fun H4 k4 hS => ?_
          replace hl := k4.at_ _ _ (by simpa using hne') hl
          replace k4 : Keep [S, l] H H4 := k3.trans (k4.mono (by simp))
          replace hS : H4 S = some (.lst [.ref l, .int x, .int ((q0 + 1 : Nat) : Int), .int m]) := hS
          have hlen' : rest.length ≤ 63 := by rw [List.length_cons] at hlen; omega
          walk_at "pb"
          refine i_ixL (SqL.of hS) rfl ?_
          walk_at "pb"
          refine i_rI ⟨by decide, by decide, by decide⟩ ?_
          walk_at "pb"
          refine b_dec (fun hx => ?_) (fun hx => ?_)
          · walk_at "pb"
            refine i_ixL (SqL.of hS) rfl ?_
            walk_at "pb"
            refine i_rI (mulW_small (by rw [p64]; omega) (by decide)) ?_
            walk_at "pb"
            refine i_ixL (SqL.of hS) rfl ?_
            walk_at "pb"
            refine i_rI (by decide) ?_
            walk_at "pb"
            refine i_setL hS rfl fun H5 k5 hS => ?_
            replace hl := k5.at_ _ _ (by simpa using hne') hl
            replace k5 : Keep [S, l] H H5 := k4.trans (k5.mono (by simp))
            walk_at "pb"
            refine i_setL hS rfl fun H6 k6 hS => ?_
            replace hl := k6.at_ _ _ (by simpa using hne') hl
            replace k6 : Keep [S, l] H H6 := k5.trans (k6.mono (by simp))
            exact ⟨rfl, k6, rest, 0, _, hS, hl, hlen', Int.emod_nonneg _ (by decide), Int.emod_lt_of_pos _ (by decide)⟩
          · walk_at "pb"
            exact ⟨rfl, k4, rest, x, m, hS, hl, hlen', hm1, hm2⟩
        · walk_at "pb"
          exact ⟨rfl, k2, rest, _, m, hS, hl, hlen, hm1, hm2⟩
      · walk_at "pb"
        exact ⟨rfl, k1, rest, _, m, hS, hl, hlen, hm1, hm2⟩
    · rintro σ' H' ⟨rfl, k, rest, c, m, hS, hl, hlen, hm1, hm2⟩
      walk_at "pb"
      refine i_ixL (SqL.of hS) rfl ?_
      walk_at "pb"
      refine b_dec (fun hc => ?_) (fun hc => ?_)
      · walk_at "pb"
        refine i_ixL (SqL.of hS) rfl ?_
        walk_at "pb"
        refine i_rI hm0 ?_
        walk_at "pb"
        refine i_ixL (SqL.of hS) rfl ?_
        walk_at "pb"
        refine i_rI ⟨by omega, hmb⟩ ?_
        walk_at "pb"
        refine i_setL hS rfl fun H1 k1 hS => ?_
        replace hl := k1.at_ _ _ (by simpa using hne') hl
        replace k1 : Keep [S, l] H H1 := k.trans (k1.mono (by simp))
        walk_at "pb"
        exact q _ _ k1 ⟨hne, rest, _, m, q0 + 1, by omega, hS, hl, hlen, hm1, hm2⟩ (Int.emod_nonneg _ (by omega)) (Int.emod_lt_of_pos _ hm0)
      · walk_at "pb"
        refine i_ixL (SqL.of hS) rfl ?_
        walk_at "pb"
        refine i_ixL (SqL.of hS) rfl ?_
        refine i_rI (mulW_small (by decide) (by rw [p64]; omega)) ?_
        walk_at "pb"
        refine i_rI ⟨by decide, by decide, by rw [p64]; omega⟩ ?_
        walk_at "pb"
        refine i_rI (by decide) ?_
        generalize hg : (m + 104729 * ((q0 + 1 : Nat) : Int) + 17) ^ (Int.toNat 5) % 2147483629 = g
        have hg1 : 0 ≤ g := by rw [← hg]; exact Int.emod_nonneg _ (by decide)
        have hg2 : g < 2147483629 := by rw [← hg]; exact Int.emod_lt_of_pos _ (by decide)
        walk_at "pb"
        refine i_rI (mulW_small (by rw [p64]; omega) (by decide)) ?_
        walk_at "pb"
        refine i_ixL (SqL.of hS) rfl ?_
        refine i_rI (mulW_small (by decide) (by rw [p64]; omega)) ?_
        walk_at "pb"
        refine i_ixL (SqL.of hS) rfl ?_
        refine i_rI (mulW_small (by rw [p64]; omega) (by rw [p64]; omega)) ?_
        walk_at "pb"
        have hb : (40503 * ((q0 + 1 : Nat) : Int)) * ((q0 + 1 : Nat) : Int) ≤ 40503 * 10000001 * 10000001 := Int.mul_le_mul (by omega) (by omega) (by omega) (by omega)
        have hb0 : 0 ≤ (40503 * ((q0 + 1 : Nat) : Int)) * ((q0 + 1 : Nat) : Int) := Int.mul_nonneg (by omega) (by omega)
        generalize (40503 * ((q0 + 1 : Nat) : Int)) * ((q0 + 1 : Nat) : Int) = b at hb hb0
        refine i_rI ⟨by decide, by decide, by rw [p64]; omega⟩ ?_
        walk_at "pb"
        refine i_rI (by decide) ?_
        walk_at "pb"
        refine i_rI hm0 ?_
        exact q _ _ k ⟨hne, rest, c, m, q0 + 1, by omega, hS, hl, hlen, hm1, hm2⟩ (Int.emod_nonneg _ (by omega)) (Int.emod_lt_of_pos _ hm0)
def spStart (K : PySem.W.Frag) : Sp := fun vs H Q _ => ∃ (a : Addr) (ns : List Int), vs = [.ref a] ∧ SqL K H a (ns.map V.int) ∧ ns.length ≤ 63 ∧ ∀ S l H', H S = none → H l = none → Keep [] H H' → Stm S l 0 H' → Q (.ref S) H'
theorem ok_l_start {P : Program} {w : World} {K : PySem.W.Frag} {mg : Str → Option Value} {base : Heap} (T : Tx P K mg) : OkF P w K mg base CX0 1 "_law_start" ["_law_script"] [] ((spStart K)) := by
  obtain ⟨fd, F⟩ := T.d_l_start
  refine ⟨fd, [], F.ok sc_l_start (fun vs H Q E h => ?len) (fun cdv A outer s H vs Q E hr h => ?body), T.g_l_start, F.kp, F.bindsN fun _ _ _ _ _ _ us hl => match us, hl with | [_], _ => rfl, .nil⟩
  case len =>
    obtain ⟨a, ns, rfl, _⟩ := h
    rfl
  case body =>
    obtain ⟨a, ns, rfl, hs, hl, q⟩ := h
    refine ⟨_, PSs.nox (pss_one (ps_ret (pe_lst (pa_cons (pe_callTy (PB.call_listK (K := K)) (by rfl) T.f_list (by decide +kernel) (pa_cons (pv 0) pa_nil)) (pa_cons pe_int (pa_cons pe_int (pa_cons pe_int pa_nil))))))), ?_⟩
    try dsimp only [cxOf, Cx.nox, Cx.wish]
    rw [show ∀ z0 : V, L2.start ["_law_script"] [z0] = [some z0] from fun _ => rfl]
    walk_at "pb"
    refine i_listL hs fun l H1 hl0 k1 h1 => ?_
    walk_at "pb"
    refine i_lstR (by walk_at "sz") fun S H2 hS k2 hS2 => ?_
    have hne : S ≠ l := fun e => by subst e; rw [hS] at h1; cases h1
    exact q S l H2 (k1.free (by simp) hS) hl0 (k1.trans k2) ⟨hne, ns, 0, 0, 0, by omega, hS2, k2.at_ _ _ (by simp) h1, hl, by omega, by omega⟩
theorem okD_l_draw {P : Program} {w : World} {K : PySem.W.Frag} {mg : Str → Option Value} {base : Heap} (T : Tx P K mg) : OkF P w K mg base CX0 1 "_law_draw" ["_law_stream", "_law_many"] [] (DL.spOf ⟨K, w⟩ DL.dspDraw) := DL.FnOk.impF (ok_l_draw T) DL.draw_sp
theorem okD_l_start {P : Program} {w : World} {K : PySem.W.Frag} {mg : Str → Option Value} {base : Heap} (T : Tx P K mg) : OkF P w K mg base CX0 1 "_law_start" ["_law_script"] [] (DL.spOf ⟨K, w⟩ DL.dspStart) := DL.FnOk.impF (ok_l_start T) (fun vs H Q E h => DL.start_sp vs H Q E h)
section
open DL
/-- one of a list -/
def dsp_l_pick : DSp := fun ds Q _ => ∃ (n : Nat) (o : Bool) (xs : List D), ds = [.spring n, .lst false xs] ∧ n < 9999999 ∧ xs ≠ [] ∧ xs.length ≤ 1000000 ∧ (∀ x ∈ xs, x.isFz = true) ∧ ∀ x ∈ xs, Q x [.spring (n + 1), .lst false xs]
theorem pow_ok {i : Int} (h0 : 0 ≤ i) (h : i ≤ 2000000) : i.natAbs < 2 ^ 9000 := by
  have : i.natAbs < 2 ^ 64 := by rw [p64]; omega
  exact sz_mono this (by decide)
theorem atI_inD {xs : List D} {r : Int} (h0 : 0 ≤ r) (h : r < xs.length) : ∃ x, atI xs r = some x ∧ x ∈ xs := by
  obtain ⟨n, rfl⟩ : ∃ n : Nat, r = n := ⟨r.toNat, by omega⟩
  have hn : n < xs.length := by omega
  exact ⟨xs[n], L2.atI_nat (List.getElem?_eq_getElem hn), List.getElem_mem hn⟩
theorem ok_l_pick {P : Program} {w : World} {K : PySem.W.Frag} {mg : Str → Option Value} {base : Heap} (T : Tx P K mg) : OkF P w K mg base CX0 2 "_law_pick" ["_law_stream", "_law_some"] [] (spOf ⟨K, w⟩ dsp_l_pick) := by
  obtain ⟨fd, F⟩ := T.d_l_pick
  refine ⟨fd, [], F.ok sc_l_pick (fun vs H Q E h => ?len) (fun cdv A outer s H vs Q E hr h => ?body), T.g_l_pick, F.kp, F.bindsN fun _ _ _ _ _ _ us hl => match us, hl with | [_, _], _ => rfl, .nil⟩
  case len =>
    obtain ⟨A, F, ds, Qd, Xd, p, nd, al, h, hq, hx⟩ := h
    rw [RpA.len _ _ _ p]
    show ds.length = 2
    first | (unfold dsp_l_pick at h; split at h <;> first | rfl | exact h.elim) | (obtain ⟨_, rfl, _⟩ := h; rfl) | (obtain ⟨_, _, rfl, _⟩ := h; rfl) | (obtain ⟨_, _, _, rfl, _⟩ := h; rfl) | (obtain ⟨_, _, _, _, rfl, _⟩ := h; rfl) | (obtain ⟨_, _, _, _, _, rfl, _⟩ := h; rfl)
  case body =>
    have O_l_draw := okD_l_draw (P := P) (w := w) (base := base) T
    refine ⟨_, PSs.nox (show DSs (⟨K, w⟩ : Bs) _ (prOf [true, false] vs) W0 _ _ from (dss_one (ds_ret (de_ixD (ixd_any (hr64 hr)) (do_v (pv 1)) (do_w (de_call O_l_draw rpa0 (hr.mono (by decide)) pas0 (dos_cons (do_v (pv 0)) (dos_cons (do_w (de_callBD cd_len (by rfl) T.f_len PySem.boot_len (dos_cons (do_v (pv 1)) dos_nil))) dos_nil)))) (fun _ _ => rfl))))), ?_⟩
    refine body_of0 (ms := [true, false]) (np := 2) h fun ds Qd Xd h => ?_
    obtain ⟨n, o, xs, rfl, hn, hx, hz, hf, hh⟩ := h
    refine ⟨rfl, rfl, ?_⟩
    walk_at "dw"
    have hl : 0 < xs.length := List.length_pos_iff.mpr hx
    refine ⟨by omega, pow_ok (by omega) (by omega), by omega, fun r h0 h1 => ?_⟩
    obtain ⟨x, hat, hm⟩ := atI_inD h0 h1
    walk_at "dw"
    rw [hat]
    walk_at "dw"
    exact hh x hm
end
section
open DL
def plainD : Nat → D → Bool
  | _, .non => true
  | _, .bl _ => true
  | _, .int _ => true
  | _, .str _ => true
  | n + 1, .tup ds => decide (ds.length ≤ 1000000) && ds.all (plainD n)
  | n + 1, .lst o ds => (!o && decide (ds.length ≤ 1000000)) && ds.all (plainD n)
  | _, _ => false
theorem plain_fz : ∀ (n : Nat) (d : D), plainD n d = true → d.isFz = true := by
  intro n
  induction n with
  | zero => intro d h; cases d <;> first | rfl | (simp [plainD] at h; done)
  | succ n ih =>
    intro d h
    cases d <;> first | rfl | (simp [plainD] at h; done) | skip
    · rename_i ds
      rw [plainD, Bool.and_eq_true] at h
      rw [fz_t, D.isFzA_all]
      exact List.all_eq_true.mpr fun x hx => ih x (List.all_eq_true.mp h.2 x hx)
    · rename_i o ds
      rw [plainD, Bool.and_eq_true, Bool.and_eq_true] at h
      exact h.1.1
/-- the same plain data -/
def dspSame (n : Nat) : DSp := fun ds Q _ => ∃ d, ds = [d, d] ∧ plainD n d = true ∧ Q (.bl true) ds
def dspSameN : Nat → DSp
  | 0 => fun _ _ _ => False
  | n + 1 => dspSame n
theorem zip_self (ds : List D) : zipD ds ds = ds.map fun x => .tup [x, x] := by
  unfold zipD
  induction ds with
  | nil => rfl
  | cons d ds ih => rw [List.zip_cons_cons, List.map_cons, List.map_cons, ih]
theorem bls_true {α : Type} : ∀ l : List α, D.blsA (l.map fun _ => D.bl true) = some (List.replicate l.length true)
  | [] => rfl
  | a :: l => by rw [List.map_cons, D.blsA, bls_true l]; rfl
theorem all_repl (n : Nat) : (List.replicate n true).all id = true := by induction n <;> simp_all
theorem ok_l_same_step {P : Program} {w : World} {K : PySem.W.Frag} {mg : Str → Option Value} {base : Heap} {j : Nat} {n : Nat} (T : Tx P K mg) (O_l_same : OkF P w K mg base CX0 j "_law_same" ["_law_found", "_law_due"] [] (spOf ⟨K, w⟩ (dspSameN n))) : OkF P w K mg base CX0 (j + 1) "_law_same" ["_law_found", "_law_due"] [] (spOf ⟨K, w⟩ (dspSame n)) := by
  obtain ⟨fd, F⟩ := T.d_l_same
  refine ⟨fd, [], F.ok sc_l_same (fun vs H Q E h => ?len) (fun cdv A outer s H vs Q E hr h => ?body), T.g_l_same, F.kp, F.bindsN fun _ _ _ _ _ _ us hl => match us, hl with | [_, _], _ => rfl, .nil⟩
  case len =>
    obtain ⟨A, F, ds, Qd, Xd, p, nd, al, h, hq, hx⟩ := h
    rw [RpA.len _ _ _ p]
    show ds.length = 2
    obtain ⟨_, rfl, _⟩ := h
    rfl
  case body =>
    refine ⟨_, PSs.nox (show DSs (⟨K, w⟩ : Bs) _ (prOf [] vs) W0 _ _ from (dss_cons (ds_if (dt_val (de_isiT T.isx (by rfl) T.f_isinstance (do_v (pv 1)) (pa_tys_cons (n := "list") (pe_bltn (v := .ty "list") (by rfl) T.f_list (by decide +kernel) rfl) (pa_tys_cons (n := "tuple") (pe_bltn (v := .ty "tuple") (by rfl) T.f_tuple (by decide +kernel) rfl) pa_tys_nil)))) (dss_cons (ds_if (dw_pt (dw_or (dt_cmpD (od_ne (hr64 hr)) (do_w (de_callBD (cd_isi T.isx) (by rfl) T.f_isinstance (by decide +kernel) (dos_cons (do_v (pv 0)) (dos_cons (do_w (de_c (d := .ty "list") (pe_bltn (v := .ty "list") (by rfl) T.f_list (by decide +kernel) rfl))) dos_nil)))) (do_w (de_callBD (cd_isi T.isx) (by rfl) T.f_isinstance (by decide +kernel) (dos_cons (do_v (pv 1)) (dos_cons (do_w (de_c (d := .ty "list") (pe_bltn (v := .ty "list") (by rfl) T.f_list (by decide +kernel) rfl))) dos_nil)))) (nomark _)) (dw_or1 (dt_cmpD (od_ne (hr64 hr)) (do_w (de_callBD (cd_isi T.isx) (by rfl) T.f_isinstance (by decide +kernel) (dos_cons (do_v (pv 0)) (dos_cons (do_w (de_c (d := .ty "tuple") (pe_bltn (v := .ty "tuple") (by rfl) T.f_tuple (by decide +kernel) rfl))) dos_nil)))) (do_w (de_callBD (cd_isi T.isx) (by rfl) T.f_isinstance (by decide +kernel) (dos_cons (do_v (pv 1)) (dos_cons (do_w (de_c (d := .ty "tuple") (pe_bltn (v := .ty "tuple") (by rfl) T.f_tuple (by decide +kernel) rfl))) dos_nil)))) (nomark _))))) (dss_one (ds_ret (de_c (d := .bl false) pe_bl))) dss_nil)
      (dss_one (ds_ret (de_and (de_cmpD (od_eq (hr64 hr)) (do_w (de_callBD cd_len (by rfl) T.f_len PySem.boot_len (dos_cons (do_v (pv 0)) dos_nil))) (do_w (de_callBD cd_len (by rfl) T.f_len PySem.boot_len (dos_cons (do_v (pv 1)) dos_nil))) (nomark _)) (de_one (de_callBD cd_all (by rfl) T.f_all (by decide +kernel) (dos_cons (do_w (de_lc (own := [("_law_one", 2), ("_law_other", 3)]) (by rfl) sc_l_same.nd (di_zip (by rfl) T.f_zip (de_var (pv 0)) (de_var (pv 1))) (blkOk_by (own := [("_law_one", 2), ("_law_other", 3)]) (N := ["_law_found", "_law_due", "_law_one", "_law_other"]) (sc := defScope (topS 13)) (by first | decide +kernel | rfl)) (fun _ _ _ _ _ => (dg_tup (PB.pg_tupK (K := K) 2 rfl (pgs_cons (dg_name (pg_name (i := 2) sc_l_same.nd rfl (Or.inl rfl))) (pgs_cons (dg_name (pg_name (i := 3) sc_l_same.nd rfl (Or.inl rfl))) pgs_nil))) rfl (lift_gsCons (lift_gsCons lift_gsNil)))) (fun _ _ _ _ _ => dts_nil) (fun _ _ _ _ _ => (de_call O_l_same rpa0 (hr.mono (by omega)) pas0 (dos_cons (do_w (de_var (pv 2))) (dos_cons (do_w (de_var (pv 3))) dos_nil)))))) dos_nil))))))) dss_nil)
      (dss_cons (ds_if (dt_val (de_callBD (cd_isi T.isx) (by rfl) T.f_isinstance (by decide +kernel) (dos_cons (do_v (pv 1)) (dos_cons (do_w (de_c (d := .ty "int") (pe_bltn (v := .ty "int") (by rfl) T.f_int (by decide +kernel) rfl))) dos_nil)))) (dss_one (ds_ret (de_and (de_callBD (cd_isi T.isx) (by rfl) T.f_isinstance (by decide +kernel) (dos_cons (do_v (pv 0)) (dos_cons (do_w (de_c (d := .ty "int") (pe_bltn (v := .ty "int") (by rfl) T.f_int (by decide +kernel) rfl))) dos_nil))) (de_and (de_cmpD (od_eq (hr64 hr)) (do_w (de_callBD (cd_isi T.isx) (by rfl) T.f_isinstance (by decide +kernel) (dos_cons (do_v (pv 0)) (dos_cons (do_w (de_c (d := .ty "bool") (pe_bltn (v := .ty "bool") (by rfl) T.f_bool (by decide +kernel) rfl))) dos_nil)))) (do_w (de_callBD (cd_isi T.isx) (by rfl) T.f_isinstance (by decide +kernel) (dos_cons (do_v (pv 1)) (dos_cons (do_w (de_c (d := .ty "bool") (pe_bltn (v := .ty "bool") (by rfl) T.f_bool (by decide +kernel) rfl))) dos_nil)))) (nomark _)) (de_one (de_cmpD (od_eq (hr64 hr)) (do_v (pv 0)) (do_v (pv 1)) (nomark _))))))) dss_nil)
      (dss_one (ds_ret (de_and (de_cmpD (od_eq (hr64 hr)) (do_v (pv 0)) (do_v (pv 1)) (nomark _)) (de_one (de_cmpD od_isB (do_w (de_isiT T.isx (by rfl) T.f_isinstance (do_v (pv 0)) (pa_tys_cons (n := "int") (pe_bltn (v := .ty "int") (by rfl) T.f_int (by decide +kernel) rfl) (pa_tys_cons (n := "list") (pe_bltn (v := .ty "list") (by rfl) T.f_list (by decide +kernel) rfl) (pa_tys_cons (n := "tuple") (pe_bltn (v := .ty "tuple") (by rfl) T.f_tuple (by decide +kernel) rfl) pa_tys_nil))))) (do_w (de_c (d := .bl false) pe_bl)) (nomark _))))))))), ?_⟩
    refine body_of0 (ms := []) (np := 2) h fun ds Qd Xd h => ?_
    obtain ⟨d, rfl, hp, hh⟩ := h
    have hz := plain_fz n d hp
    have hm := D.may_fz d hz
    have hf := D.freeze_fz d hz
    refine ⟨rfl, by simp [fzP, hz], ?_⟩
    cases d <;> first | (exfalso; cases n <;> simp [plainD] at hp; done) | skip
    · walk_at "dw"
      simp [gIsiT, isTy, tyOk, D.tyN]
      walk_at "dw"
      exact hh
    · walk_at "dw"
      simp [gIsiT, isTy, tyOk, D.tyN]
      walk_at "dw"
      exact hh
    · walk_at "dw"
      simp [gIsiT, isTy, tyOk, D.tyN]
      walk_at "dw"
      exact hh
    · walk_at "dw"
      simp [gIsiT, isTy, tyOk, D.tyN]
      walk_at "dw"
      exact hh
    · rename_i ds
      have hz' : D.isFzA ds = true := hz
      cases n with
      | zero => simp [plainD] at hp
      | succ n =>
        rw [plainD, Bool.and_eq_true] at hp
        have hl := of_decide_eq_true hp.1
        have hp := hp.2
        simp only [frz_t, D.tup.injEq] at hf
        walk_at "dw"
        simp [gIsiT, isTy, tyOk, D.tyN]
        walk_at "dw"
        rw [hf]
        refine ⟨D.mayA_fz ds hz', hz', ?_⟩
        rw [zip_self]
        have hlen : ds.length ≤ 1000000 := hl
        refine lc_map (out := fun _ => .bl true) rfl hlen (fun _ _ => rfl) (fun x hx K X0 hK => ?_) ?_
        · have px := List.all_eq_true.mp hp x hx
          have zx := plain_fz n x px
          have mx := D.may_fz x zx
          have fx := D.freeze_fz x zx
          walk_at "dw"
          simp only [mx, fx, cond_true]
          walk_at "dw"
          exact ⟨x, rfl, px, hK _ rfl⟩
        · walk_at "dw"
          rw [bls_true]
          walk_at "dw"
          rw [all_repl]
          exact hh
    · rename_i o ds
      cases n with
      | zero => simp [plainD] at hp
      | succ n =>
        rw [plainD, Bool.and_eq_true, Bool.and_eq_true] at hp
        have ho : o = false := by simpa using hp.1.1
        subst ho
        have hl := of_decide_eq_true hp.1.2
        have hp := hp.2
        walk_at "dw"
        simp [gIsiT, isTy, tyOk, D.tyN]
        walk_at "dw"
        rw [zip_self]
        have hlen : ds.length ≤ 1000000 := hl
        refine lc_map (out := fun _ => .bl true) rfl hlen (fun _ _ => rfl) (fun x hx K X0 hK => ?_) ?_
        · have px := List.all_eq_true.mp hp x hx
          have zx := plain_fz n x px
          have mx := D.may_fz x zx
          have fx := D.freeze_fz x zx
          walk_at "dw"
          simp only [mx, fx, cond_true]
          walk_at "dw"
          exact ⟨x, rfl, px, hK _ rfl⟩
        · walk_at "dw"
          rw [bls_true]
          walk_at "dw"
          rw [all_repl]
          exact hh
end
section
open DL
theorem ok_l_sameN {P : Program} {w : World} {K : PySem.W.Frag} {mg : Str → Option Value} {base : Heap} (T : Tx P K mg) : ∀ n : Nat, OkF P w K mg base CX0 (n + 1) "_law_same" ["_law_found", "_law_due"] [] (spOf ⟨K, w⟩ (dspSameN n))
  | 0 => by
    obtain ⟨fd, F⟩ := T.d_l_same
    refine ⟨fd, [], F.ok (k := 0) sc_l_same (fun vs H Q E h => ?_) (fun cdv A outer s H vs Q E hr h => ?_), T.g_l_same, F.kp, F.bindsN fun _ _ _ _ _ _ us hl => match us, hl with | [_, _], _ => rfl, .nil⟩
    · obtain ⟨_, _, _, _, _, _, _, _, h, _⟩ := h; exact h.elim
    · obtain ⟨_, _, _, _, _, _, _, _, h, _⟩ := h; exact h.elim
  | n + 1 => ok_l_same_step T (ok_l_sameN T n)
theorem ok_l_same {P : Program} {w : World} {K : PySem.W.Frag} {mg : Str → Option Value} {base : Heap} (T : Tx P K mg) : OkF P w K mg base CX0 8 "_law_same" ["_law_found", "_law_due"] [] (spOf ⟨K, w⟩ (dspSame 6)) := ok_l_sameN T 7
end
theorem cont1 (x : Str) : (([x] : List Str).contains x = true) = True := by simp
section
open DL
theorem ixNat {n j : Nat} (hj : j < n) : ixN n (j : Int) = some j := by
  unfold L2.ixN
  first | rw [if_pos (by omega)] | skip
  simp
  try omega
theorem perm_erase {α : Type} : ∀ (xs : List α) (j : Nat) (h : j < xs.length), ([xs[j]] ++ xs.eraseIdx j).Perm xs
  | x :: xs, 0, _ => by simp
  | x :: xs, j + 1, h => by
    have := perm_erase xs j (by simpa using h)
    simp only [List.getElem_cons_succ, List.eraseIdx_cons_succ, List.singleton_append] at *
    exact (List.Perm.swap _ _ _).trans (this.cons x)
def dsp_l_mixed : DSp := fun ds Q _ => ∃ (n : Nat) (xs : List D), ds = [.spring n, .lst false xs] ∧ n < 9000000 ∧ xs.length ≤ 1000 ∧ (∀ x ∈ xs, x.isFz = true) ∧ ∀ (m : Nat) (ys : List D), m ≤ n + xs.length → ys.Perm xs → Q (.lst true ys) [.spring m, .lst false xs]
theorem ok_l_mixed {P : Program} {w : World} {K : PySem.W.Frag} {mg : Str → Option Value} {base : Heap} (T : Tx P K mg) : OkF P w K mg base CX0 2 "_law_mixed" ["_law_stream", "_law_some"] [] (spOf ⟨K, w⟩ dsp_l_mixed) := by
  obtain ⟨fd, F⟩ := T.d_l_mixed
  refine ⟨fd, [], F.ok sc_l_mixed (fun vs H Q E h => ?len) (fun cdv A outer s H vs Q E hr h => ?body), T.g_l_mixed, F.kp, F.bindsN fun _ _ _ _ _ _ us hl => match us, hl with | [_, _], _ => rfl, .nil⟩
  case len =>
    obtain ⟨A, F, ds, Qd, Xd, p, nd, al, h, hq, hx⟩ := h
    rw [RpA.len _ _ _ p]
    show ds.length = 2
    obtain ⟨_, _, rfl, _⟩ := h; rfl
  case body =>
    have O_l_draw := okD_l_draw (P := P) (w := w) (base := base) T
    refine ⟨_, PSs.nox (show DSs (⟨K, w⟩ : Bs) _ (prOf [true, false] vs) W0 _ _ from (dss_cons (ds_set (i := 2) sc_l_mixed.nd rfl (by first | exact Or.inr rfl | exact Or.inl rfl) (de_callTyD cd_list (by rfl) T.f_list (by decide +kernel) (dos_cons (do_v (pv 1)) dos_nil)))
      (dss_one (ds_ret (de_lc (own := [("_law_k", 3)]) (by rfl) sc_l_mixed.nd (di_range1 (by rfl) T.f_range (do_w (de_callBD cd_len (by rfl) T.f_len PySem.boot_len (dos_cons (do_v (pv 2)) dos_nil)))) (blkOk_by (own := [("_law_k", 3)]) (N := ["_law_stream", "_law_some", "_law_left", "_law_k"]) (sc := defScope (topS 12)) (by first | decide +kernel | rfl)) (fun _ _ _ _ _ => (dg_name (pg_name (i := 3) sc_l_mixed.nd rfl (Or.inl rfl)))) (fun _ _ _ _ _ => dts_nil) (fun _ _ _ _ _ => (de_lm sm_pop PySem.F.slot_list_pop PySem.F.type_list_pop mt_popAt (pv 2) (dws_cons (de_call O_l_draw rpa0 (hr.mono (by decide)) pas0 (dos_cons (do_v (pv 0)) (dos_cons (do_w (de_callBD cd_len (by rfl) T.f_len PySem.boot_len (dos_cons (do_v (pv 2)) dos_nil))) dos_nil))) dws_nil)))))))), ?_⟩
    refine body_of0 (ms := [true, false]) (np := 2) h fun ds Qd Xd h => ?_
    obtain ⟨n, xs, rfl, hn, hl, hfz, hh⟩ := h
    have hxf : D.isFzA xs = true := by rw [D.isFzA_all]; exact List.all_eq_true.mpr hfz
    refine ⟨rfl, rfl, ?_⟩
    walk_at "dw"
    refine ⟨by omega, by omega, fun k acc ρ' => ∃ (m : Nat) (ys left : List D), acc = ys ∧ ρ' = [some (.spring m), some (.lst false xs), some (.lst true left), none] ∧ m ≤ n + k ∧ (ys ++ left).Perm xs ∧ ys.length = k, ⟨n, [], xs, rfl, rfl, by omega, by simp, rfl⟩, ?_, ?_⟩
    · rintro k d acc ρ' hk ⟨m, ys, left, rfl, rfl, hm, hp, hyl⟩
      obtain ⟨hlt, rfl⟩ := rng_get hk
      have hlen := hp.length_eq
      rw [List.length_append] at hlen
      walk_at "dw"
      refine ⟨by omega, pow_ok (by omega) (by omega), by omega, fun r h2 h3 => ?_⟩
      walk_at "dw"
      obtain ⟨j, rfl⟩ : ∃ j : Nat, r = j := ⟨r.toNat, by omega⟩
      have hj : j < left.length := by omega
      have hjf : left[j].isFz = true := hfz _ (hp.mem_iff.mp (List.mem_append_right _ (List.getElem_mem hj)))
      rw [ixNat hj, onSome_some, List.getElem?_eq_getElem hj, onSome_some]
      walk_at "dw"
      rw [D.may_fz _ hjf, cond_true, D.freeze_fz _ hjf]
      refine ⟨by omega, by omega, m + 1, acc ++ [left[j]], left.eraseIdx j, rfl, rfl, by omega, ?_, by simp; omega⟩
      rw [List.append_assoc]
      exact ((List.Perm.append_left acc (perm_erase left j hj)).trans hp)
    · rintro acc ρ' ⟨m, ys, left, rfl, rfl, hm, hp, hyl⟩
      walk_at "dw"
      have h0 : (rngD 0 ((xs.length : Int)).toNat).length = xs.length := by simp [rngD]
      have hle : left = [] := by
        have := hp.length_eq
        rw [List.length_append] at this
        exact List.length_eq_zero_iff.mp (by omega)
      subst hle
      rw [List.append_nil] at hp
      exact hh m acc (by omega) hp
end
section
open DL
theorem any_strs {xs : List Str} {a : Str} : ((xs.map D.str).any fun z => z.eqv (.str a)) = decide (a ∈ xs) := by
  induction xs with
  | nil => simp
  | cons x xs ih => rw [List.map_cons, List.any_cons, ih, D.eqv_str]; simp [eq_comm]
theorem flat_strs (xs : List Str) : (xs.map D.str).all D.flat = true := by rw [List.all_map]; exact List.all_eq_true.mpr fun _ _ => rfl
theorem cutTo {ds : List D} {k : Nat} (h : k ≤ ds.length) : DL.cutD ds none (some (k : Int)) = ds.take k := by
  unfold DL.cutD
  rw [HT.sIx_none, HT.sIx_nat, List.drop_zero, Nat.sub_zero, Nat.min_eq_left (by omega)]
theorem idxOf2 {α : Type} [DecidableEq α] {f : α → D} (h : ∀ a b, (f a).eqv (f b) = decide (a = b)) (x : α) : ∀ xs : List α, x ∈ xs → ∃ j, idxD (xs.map f) (f x) = some j ∧ xs[j]? = some x
  | [], hx => by cases hx
  | y :: ys, hx => by
    rw [List.map_cons, idxD, h]
    by_cases q : y = x
    · rw [if_pos (decide_eq_true q)]
      exact ⟨0, rfl, by simp [q]⟩
    · rw [if_neg (by simp [q])]
      obtain ⟨j, h1, h2⟩ := idxOf2 h x ys (by
        rcases List.mem_cons.mp hx with z | z
        · exact absurd z.symm q
        · exact z)
      exact ⟨j + 1, by rw [h1]; rfl, by simpa using h2⟩
theorem eraseMap {α β : Type} (f : α → β) : ∀ (l : List α) (j : Nat), (l.map f).eraseIdx j = (l.eraseIdx j).map f
  | [], _ => rfl
  | _ :: _, 0 => rfl
  | x :: l, j + 1 => by rw [List.map_cons, List.eraseIdx_cons_succ, List.eraseIdx_cons_succ, List.map_cons, eraseMap f l j]
def insAt (l : List Str) (k : Nat) (x : Str) : List Str := l.take k ++ [x] ++ l.drop k
end
section
open DL
/-- the case of no such name -/
abbrev noCase (n : Str) : DX := .fld "NoCase" ["name"] [.str n]
abbrev invMove (k : Int) : DX := .fld "InvalidMove" ["place"] [.int k]
abbrev caseThere (n : Str) : DX := .fld "CaseThere" ["name"] [.str n]
def dsp_place_of : DSp := fun ds Q X => ∃ (R : List Str) (n : Str), ds = [.lst false (R.map .str), .str n] ∧ R.length ≤ 1000 ∧ ((∃ i : Nat, R.Nodup ∧ R[i]? = some n ∧ Q (.int i) ds) ∨ (n ∉ R ∧ X (noCase n) ds))
theorem ok_place_of {P : Program} {w : World} {K : PySem.W.Frag} {mg : Str → Option Value} {base : Heap} (T : Tx P K mg) : OkF P w K mg base (L2.CX P w) 4 "place_of" ["names", "name"] [] (spOf ⟨K, w⟩ dsp_place_of) := by
  obtain ⟨fd, F⟩ := T.d_place_of
  refine ⟨fd, [], F.ok sc_place_of (fun vs H Q E h => ?len) (fun cdv A outer s H vs Q E hr h => ?body), T.g_place_of, F.kp, F.bindsN fun _ _ _ _ _ _ us hl => match us, hl with | [_, _], _ => rfl, .nil⟩
  case len =>
    obtain ⟨A, F, ds, Qd, Xd, p, nd, al, h, hq, hx⟩ := h
    rw [RpA.len _ _ _ p]
    show ds.length = 2
    obtain ⟨_, _, rfl, _⟩ := h; rfl
  case body =>
    refine ⟨_, (show DSs (⟨K, w⟩ : Bs) _ (prOf [] vs) (fun c d _ H => E c d H) _ _ from (dss_cons (ds_if (dt_cmpD (od_notInX (hr64 hr)) (do_v (pv 1)) (do_v (pv 0)) (by rfl)) (dss_one (ds_raiseF rfl (takes_of rfl rfl rfl rfl) (okX_NoCase T) (hr.mono (by decide)) (dos_cons (do_w (de_var (pv 1))) dos_nil))) dss_nil)
      (dss_one (ds_ret (de_idx (pv 0) (dws_cons (de_var (pv 1)) dws_nil)))))), ?_⟩
    refine body_of (ms := []) (np := 2) h fun ds Qd Xd h => ?_
    obtain ⟨R, n, rfl, hl, hh⟩ := h
    refine ⟨rfl, rfl, ?_⟩
    rcases hh with ⟨i, nd, hi, hh⟩ | ⟨hn, hh⟩
    · have hn := List.mem_of_getElem? hi
      walk_at "dx"
      rw [flat_strs, cond_true, any_strs, decide_eq_true hn]
      walk_at "dx"
      obtain ⟨j, j1, j2⟩ := idxOf2 (f := D.str) (fun a b => D.eqv_str a b) n R hn
      rw [j1, onSome_some]
      have : j = i := (List.getElem?_inj (List.getElem?_eq_some_iff.mp j2).1 nd).mp (j2.trans hi.symm)
      rw [this]
      exact hh
    · walk_at "dx"
      rw [flat_strs, cond_true, any_strs, decide_eq_false hn]
      walk_at "dx"
      exact ⟨rfl, hh⟩
end
section
open DL
def rvN : List Str := ["names", "cost"]
def rvD (R : List Str) (c : Int) : D := .ins true "Rival" rvN [.lst true (R.map .str), .int c]
theorem rv_may (R : List Str) (c : Int) : (rvD R c).mayLend = true := rfl
theorem rv_fn (R : List Str) (c : Int) (k : D → Prop) : fldD ["Rival"] "names" (rvD R c).freeze k = k (.lst false (R.map .str)) := by
  rw [show (rvD R c).freeze = .ins false "Rival" rvN [.lst false (R.map .str), .int c] from rfl, fldD_e, show (rvN.zip _).lookup ("names" : Str) = some (.lst false (R.map .str)) from rfl, onSome_some]
  simp only [cont1, true_and]
  rfl
theorem rv_fc (R : List Str) (c : Int) (k : D → Prop) : fldD ["Rival"] "cost" (rvD R c).freeze k = k (.int c) := by
  rw [show (rvD R c).freeze = .ins false "Rival" rvN [.lst false (R.map .str), .int c] from rfl, fldD_e, show (rvN.zip _).lookup ("cost" : Str) = some (.int c) from rfl, onSome_some]
  simp only [cont1, true_and]
  rfl
theorem rv_gn (R : List Str) (c : Int) : getP [.f ["Rival"] "names"] (rvD R c) = some (.lst true (R.map .str)) := rfl
theorem rv_sn (R R' : List Str) (c : Int) : setP [.f ["Rival"] "names"] (rvD R c) (.lst true (R'.map .str)) = rvD R' c := rfl
theorem rv_m (R : List Str) (c : Int) (m : Str) (k : Prop) (h : rvN.contains m = false) : isIns "Rival" m (rvD R c) k = k := by
  show (_ = _ ∧ rvN.contains m = false ∧ k) = k
  rw [h]
  simp
def dsp_Rival_DinitD : DSp := fun ds Q _ => ∃ (R : List Str), ds = [.ins true "Rival" [] [], .lst false (R.map .str)] ∧ Q .non [rvD R 0, .lst false (R.map .str)]
theorem ok_Rival_DinitD {P : Program} {w : World} {K : PySem.W.Frag} {mg : Str → Option Value} {base : Heap} (T : Tx P K mg) : OkC P w K mg base CX0 1 "Rival" ["self", "names"] [] (spOf ⟨K, w⟩ dsp_Rival_DinitD) := by
  obtain ⟨fd, F⟩ := T.d_Rival_DinitD
  refine ⟨fd, [], F.ok sc_Rival_DinitD (fun vs H Q E h => ?len) (fun cdv A outer s H vs Q E hr h => ?body), T.g_Rival, T.mk_Rival, F.bindsN fun _ _ _ _ _ _ us hl => match us, hl with | [_, _], _ => rfl, .nil⟩
  case len =>
    obtain ⟨A, F, ds, Qd, Xd, p, nd, al, h, hq, hx⟩ := h
    rw [RpA.len _ _ _ p]
    show ds.length = 2
    obtain ⟨_, rfl, _⟩ := h; rfl
  case body =>
    refine ⟨_, PSs.nox (show DSs (⟨K, w⟩ : Bs) _ (prOf [true, false] vs) W0 _ _ from (dss_cons (ds_fldP (cs := ["Rival"]) (FldOk.cons T.cls_Rival T.noat_Rival_names FldOk.nil) PthOk.nil (ppt_nil (pv 0)) (de_callTyD cd_list (by rfl) T.f_list (by decide +kernel) (dos_cons (do_v (pv 1)) dos_nil)))
      (dss_one (ds_fldP (cs := ["Rival"]) (FldOk.cons T.cls_Rival T.noat_Rival_cost FldOk.nil) PthOk.nil (ppt_nil (pv 0)) (de_c (d := .int 0) pe_int))))), ?_⟩
    refine body_of0 (ms := [true, false]) (np := 2) h fun ds Qd Xd h => ?_
    obtain ⟨R, rfl, hh⟩ := h
    refine ⟨rfl, rfl, ?_⟩
    walk_at "dx"
    exact ⟨by decide, by decide, by decide, by decide, hh⟩
end
section
open DL
def dsp_Rival_order : DSp := fun ds Q _ => ∃ (R : List Str) (c : Int), ds = [rvD R c] ∧ R.length ≤ 1000 ∧ Q (.lst true (R.map .str)) ds
theorem ok_Rival_order {P : Program} {w : World} {K : PySem.W.Frag} {mg : Str → Option Value} {base : Heap} (T : Tx P K mg) : OkP P w K mg base CX0 1 "Rival" "order" ["self"] [] (spOf ⟨K, w⟩ dsp_Rival_order) := by
  obtain ⟨fd, F⟩ := T.d_Rival_order
  refine ⟨fd, [], F.ok sc_Rival_order (fun vs H Q E h => ?len) (fun cdv A outer s H vs Q E hr h => ?body), T.cls_Rival, T.prop_Rival_order, F.bindsN fun _ _ _ _ _ _ us hl => match us, hl with | [_], _ => rfl, .nil⟩
  case len =>
    obtain ⟨A, F, ds, Qd, Xd, p, nd, al, h, hq, hx⟩ := h
    rw [RpA.len _ _ _ p]
    show ds.length = 1
    obtain ⟨_, _, rfl, _⟩ := h; rfl
  case body =>
    refine ⟨_, PSs.nox (show DSs (⟨K, w⟩ : Bs) _ (prOf [true] vs) W0 _ _ from (dss_one (ds_ret (de_brx 0 (de_callTyD cd_list (by rfl) T.f_list (by decide +kernel) (dos_cons (do_w (de_fld (cs := ["Rival"]) (FldOk.cons T.cls_Rival T.noat_Rival_names FldOk.nil) (do_v (pv 0)))) dos_nil)))))), ?_⟩
    refine body_of0 (ms := [true]) (np := 1) h fun ds Qd Xd h => ?_
    obtain ⟨R, c, rfl, hl, hh⟩ := h
    refine ⟨rfl, rfl, ?_⟩
    walk_at "dx"
    rw [rv_fn]
    walk_at "dx"
    exact ⟨rv_may _ _, hh⟩
end
section
open DL
def dsp_Rival_call : DSp := fun ds Q X => ∃ (R : List Str) (c : Int) (n : Str) (u : D), ds = [rvD R c, .str n, u] ∧ R.length ≤ 1000 ∧ (u = .non ∨ ∃ t : Int, u = .int t) ∧
  ((∃ (i : Nat) (R' : List Str), R.Nodup ∧ R[i]? = some n ∧ (u = .non ∧ R' = R ∨ ∃ t : Nat, u = .int t ∧ t ≤ i ∧ R' = insAt (R.eraseIdx i) t n) ∧ Q .non [rvD R' (c + i), .str n, u]) ∨
    (n ∉ R ∧ X (noCase n) ds) ∨ (∃ (i : Nat) (t : Int), R.Nodup ∧ R[i]? = some n ∧ u = .int t ∧ (t < 0 ∨ (i : Int) < t) ∧ X (invMove t) ds))
theorem ok_Rival_call_f {P : Program} {w : World} {K : PySem.W.Frag} {mg : Str → Option Value} {base : Heap} (T : Tx P K mg) : ∃ fd, FnOk P w K mg base (L2.CX P w) 5 (He.ma K (He.ga K "Rival") "call") fd ["self", "name", "to"] (spOf ⟨K, w⟩ dsp_Rival_call) ∧ FunD K "call" "Rival.call" (defArgs (inClass (topS 6) 4)) (defBody (inClass (topS 6) 4)) (defScope (inClass (topS 6) 4)) [V.non] [] (He.ma K (He.ga K "Rival") "call") fd := by
  obtain ⟨fd, F⟩ := T.d_Rival_call
  refine ⟨fd, F.ok sc_Rival_call (fun vs H Q E h => ?len) (fun cdv A outer s H vs Q E hr h => ?body), F⟩
  case len =>
    obtain ⟨A, F, ds, Qd, Xd, p, nd, al, h, hq, hx⟩ := h
    rw [RpA.len _ _ _ p]
    show ds.length = 3
    obtain ⟨_, _, _, _, rfl, _⟩ := h; rfl
  case body =>
    have O_place_of := ok_place_of (P := P) (w := w) (base := base) T
    have hvl : List.length vs = 3 := spOf_len h fun ds Qd Xd h => by
      obtain ⟨_, _, _, _, rfl, _⟩ := h; rfl
    obtain ⟨v0, v1, v2, rfl⟩ := len3 hvl
    refine ⟨_, (show DSs (⟨K, w⟩ : Bs) _ (prOf [true, false, false] [v0, v1, v2]) (fun c d _ H => E c d H) _ _ from (dss_cut (ds_set (i := 3) sc_Rival_call.nd rfl (Or.inl rfl) (de_brxX 0 rfl (de_call O_place_of rpa0 (hr.mono (by decide)) (pasT (takes_of rfl rfl rfl rfl)) (dos_cons (do_w (de_fld (cs := ["Rival"]) (FldOk.cons T.cls_Rival T.noat_Rival_names FldOk.nil) (do_v (pv 0)))) (dos_cons (do_w (de_var (pv 1))) dos_nil)))))
      (dss_cut (ds_if (dw_pt (dw_and (dt_cmpD od_notN (do_v (pv 2)) (do_w (de_c (d := .non) pe_non)) (nomark _)) (dw_and1 (dw_pt (dw_or (dt_cmpD od_lt (do_v (pv 2)) (do_w (de_c (d := .int 0) pe_int)) (nomark _)) (dw_or1 (dt_cmpD od_gt (do_v (pv 2)) (do_v (pv 3)) (nomark _)))))))) (dss_one (ds_raiseF rfl (takes_of rfl rfl rfl rfl) (okX_InvalidMove T) (hr.mono (by decide)) (dos_cons (do_w (de_var (pv 2))) dos_nil))) dss_nil)
      (dss_cut (ds_fldP (cs := ["Rival"]) (FldOk.cons T.cls_Rival T.noat_Rival_cost FldOk.nil) PthOk.nil (ppt_nil (pv 0)) (de_brx 0 (de_binD od_add (do_w (de_fld (cs := ["Rival"]) (FldOk.cons T.cls_Rival T.noat_Rival_cost FldOk.nil) (do_v (pv 0)))) (do_v (pv 3)))))
      (dss_one (ds_if (dt_cmpD od_notN (do_v (pv 2)) (do_w (de_c (d := .non) pe_non)) (nomark _)) (dss_cut (ds_del (ddls_cons (ddl_PL (PthOk.fld (FldOk.cons T.cls_Rival T.noat_Rival_names FldOk.nil) PthOk.nil) (ppt_fld (cs := ["Rival"]) (ppt_nil (pv 0))) (de_var (pv 3))) ddls_nil))
      (dss_one (ds_expr (de_lmP sm_ins PySem.F.slot_list_insert PySem.F.type_list_insert PB.mt_insN (PthOk.fld (FldOk.cons T.cls_Rival T.noat_Rival_names FldOk.nil) PthOk.nil) (ppt_fld (cs := ["Rival"]) (ppt_nil (pv 0))) (dws_cons (de_var (pv 2)) (dws_cons (de_var (pv 1)) dws_nil)))))) dss_nil)))))), ?_⟩
    refine body_of (ms := [true, false, false]) (np := 3) h fun ds Qd Xd h => ?_
    obtain ⟨R, c, n, u, rfl, hl, hu, hh⟩ := h
    have huf : u.isFz = true := by rcases hu with rfl | ⟨t, rfl⟩ <;> rfl
    have hun : ∀ nss, D.noX nss u = true := by rcases hu with rfl | ⟨t, rfl⟩ <;> intro _ <;> rfl
    refine ⟨rfl, by rcases hu with rfl | ⟨t, rfl⟩ <;> rfl, ?_⟩
    rcases hh with ⟨i, R', nd, hi, hu2, hh⟩ | ⟨hn, hh⟩ | ⟨i, t, nd, hi, rfl, ht, hh⟩
    · have hil := (List.getElem?_eq_some_iff.mp hi).1
      refine ⟨fun ρ' => ρ' = [some (rvD R c), some (.str n), some u, some (.int i)], ?_, ?_⟩
      · walk_at "dx"
        rw [rv_fn]
        walk_at "dx"
        exact ⟨rv_may _ _, R, n, rfl, hl, .inl ⟨i, nd, hi, rfl, .inr huf, rfl⟩⟩
      rintro ρ' rfl
      refine ⟨fun ρ' => ρ' = [some (rvD R c), some (.str n), some u, some (.int i)], ?_, ?_⟩
      · rcases hu2 with ⟨rfl, _⟩ | ⟨t, rfl, ht, _⟩
        · walk_at "dx"
        · walk_at "dx"
          rw [decide_eq_false (by omega), decide_eq_false (by omega), if_neg (by simp), if_neg (by simp)]
          trivial
      rintro ρ' rfl
      refine ⟨fun ρ' => ρ' = [some (rvD R (c + i)), some (.str n), some u, some (.int i)], ?_, ?_⟩
      · walk_at "dx"
        rw [rv_fc]
        walk_at "dx"
        exact ⟨rv_may _ _, .inr huf, rfl, by decide, rfl⟩
      rintro ρ' rfl
      rcases hu2 with ⟨rfl, rfl⟩ | ⟨t, rfl, ht, rfl⟩
      · walk_at "dx"
        exact hh
      walk_at "dx"
      refine ⟨fun ρ' => ρ' = [some (rvD (R.eraseIdx i) (c + i)), some (.str n), some (.int t), some (.int i)], ?_, ?_⟩
      · walk_at "dx"
        rw [rv_gn, onLM_e]
        refine ⟨rv_may _ _, ?_⟩
        rw [List.length_map, ixNat hil, onSome_some, eraseMap, rv_sn]
      rintro ρ' rfl
      walk_at "dx"
      rw [rv_gn, onLT_e]
      have hel : (R.eraseIdx i).length ≤ R.length := by rw [List.length_eraseIdx]; split <;> omega
      refine ⟨by rw [List.length_map]; omega, by omega, by omega, ?_⟩
      rw [Int.toNat_natCast, show List.take t ((R.eraseIdx i).map D.str) ++ [D.str n] ++ List.drop t ((R.eraseIdx i).map D.str) = (insAt (R.eraseIdx i) t n).map .str by unfold insAt; simp, rv_sn]
      exact hh
    · refine ⟨fun _ => False, ?_, fun _ h => h.elim⟩
      walk_at "dx"
      rw [rv_fn]
      walk_at "dx"
      refine ⟨rv_may _ _, R, n, rfl, hl, .inr ⟨hn, rfl, ?_, hh⟩⟩
      show (D.noX (rvD R c).insNs (D.str n) && (D.noX (rvD R c).insNs u && true)) = true
      rw [hun]
      rfl
    · have hil := (List.getElem?_eq_some_iff.mp hi).1
      refine ⟨fun ρ' => ρ' = [some (rvD R c), some (.str n), some (.int t), some (.int i)], ?_, ?_⟩
      · walk_at "dx"
        rw [rv_fn]
        walk_at "dx"
        exact ⟨rv_may _ _, R, n, rfl, hl, .inl ⟨i, nd, hi, rfl, rfl⟩⟩
      rintro ρ' rfl
      refine ⟨fun _ => False, ?_, fun _ h => h.elim⟩
      walk_at "dx"
      by_cases h0 : t < 0
      · rw [decide_eq_true h0, if_pos rfl]
        exact ⟨rfl, hh⟩
      · rw [decide_eq_false h0, if_neg (by simp), decide_eq_true (show (i : Int) < t by omega), if_pos rfl]
        exact ⟨rfl, hh⟩
theorem ok_Rival_call_all {P : Program} {w : World} {K : PySem.W.Frag} {mg : Str → Option Value} {base : Heap} (T : Tx P K mg) : OkM P w K mg base (L2.CX P w) 5 "Rival" "call" ["self", "name", "to"] [] (spOf ⟨K, w⟩ dsp_Rival_call) := by
  obtain ⟨fd, G, F⟩ := ok_Rival_call_f (P := P) (w := w) (base := base) T
  obtain ⟨ds, hv, hb⟩ := F.binds1 (ps := ["self", "name", "to"]) 3 1 (by simp) rfl fun _ _ _ _ _ _ _ us its hl hi => match us, its, hl, hi with | [_, _, _], [_], _, _ => ⟨_, rfl, rfl⟩
  exact ⟨fd, ds, G, T.cls_Rival, T.meth_Rival_call, hb, hv⟩
end
section
open DL
def swpAt (R : List Str) (k : Nat) : List Str := match R.drop k with
  | a :: b :: l => R.take k ++ b :: a :: l
  | _ => R
theorem swp_set {R : List Str} {k : Nat} (h : k + 1 < R.length) : (R.set k R[k + 1]).set (k + 1) R[k] = swpAt R k := by
  have e : R.drop k = R[k] :: R[k + 1] :: R.drop (k + 2) := by
    rw [List.drop_eq_getElem_cons (by omega), List.drop_eq_getElem_cons (by omega)]
  unfold swpAt
  rw [e]
  refine List.ext_getElem? fun j => ?_
  rw [List.getElem?_set, List.getElem?_set, List.getElem?_append, List.length_take, List.length_set]
  by_cases h1 : k + 1 = j
  · subst h1
    rw [if_pos rfl, if_pos (by omega), if_neg (by omega), show k + 1 - min k R.length = 1 by omega]
    rfl
  · rw [if_neg h1]
    by_cases h2 : k = j
    · subst h2
      rw [if_pos rfl, if_pos (by omega), if_neg (by omega), show k - min k R.length = 0 by omega]
      rfl
    · rw [if_neg h2]
      by_cases h3 : j < min k R.length
      · rw [if_pos h3, List.getElem?_take, if_pos (by omega)]
      · rw [if_neg h3]
        obtain ⟨x, hx⟩ : ∃ x, j = k + 2 + x := ⟨j - (k + 2), by omega⟩
        subst hx
        rw [show k + 2 + x - min k R.length = x + 1 + 1 by omega, List.getElem?_cons_succ, List.getElem?_cons_succ, List.getElem?_drop]
def dsp_Rival_exchange : DSp := fun ds Q X => ∃ (R : List Str) (c : Int) (k : Int), ds = [rvD R c, .int k] ∧ R.length ≤ 1000 ∧ ((∃ j : Nat, k = j ∧ j + 1 < R.length ∧ Q .non [rvD (swpAt R j) (c + 1), .int k]) ∨ ((k < 0 ∨ (R.length : Int) ≤ k + 1) ∧ X (invMove k) ds))
theorem ok_Rival_exchange {P : Program} {w : World} {K : PySem.W.Frag} {mg : Str → Option Value} {base : Heap} (T : Tx P K mg) : OkM P w K mg base (L2.CX P w) 4 "Rival" "exchange" ["self", "at"] [] (spOf ⟨K, w⟩ dsp_Rival_exchange) := by
  obtain ⟨fd, F⟩ := T.d_Rival_exchange
  refine ⟨fd, [], F.ok sc_Rival_exchange (fun vs H Q E h => ?len) (fun cdv A outer s H vs Q E hr h => ?body), T.cls_Rival, T.meth_Rival_exchange, F.bindsN fun _ _ _ _ _ _ us hl => match us, hl with | [_, _], _ => rfl, .nil⟩
  case len =>
    obtain ⟨A, F, ds, Qd, Xd, p, nd, al, h, hq, hx⟩ := h
    rw [RpA.len _ _ _ p]
    show ds.length = 2
    obtain ⟨_, _, _, rfl, _⟩ := h; rfl
  case body =>
    refine ⟨_, (show DSs (⟨K, w⟩ : Bs) _ (prOf [true, false] vs) (fun c d _ H => E c d H) _ _ from (dss_cut (ds_if (dw_pt (dw_or (dt_cmpD od_lt (do_v (pv 1)) (do_w (de_c (d := .int 0) pe_int)) (nomark _)) (dw_or1 (dt_brx 0 (dt_cmpD od_ge (do_w (de_binD od_add (do_v (pv 1)) (do_w (de_c (d := .int 1) pe_int)))) (do_w (de_callBD cd_len (by rfl) T.f_len PySem.boot_len (dos_cons (do_w (de_fld (cs := ["Rival"]) (FldOk.cons T.cls_Rival T.noat_Rival_names FldOk.nil) (do_v (pv 0)))) dos_nil))) (nomark _)))))) (dss_one (ds_raiseF rfl (takes_of rfl rfl rfl rfl) (okX_InvalidMove T) (hr.mono (by decide)) (dos_cons (do_w (de_var (pv 1))) dos_nil))) dss_nil)
      (dss_cut (ds_fldP (cs := ["Rival"]) (FldOk.cons T.cls_Rival T.noat_Rival_cost FldOk.nil) PthOk.nil (ppt_nil (pv 0)) (de_brx 0 (de_binD od_add (do_w (de_fld (cs := ["Rival"]) (FldOk.cons T.cls_Rival T.noat_Rival_cost FldOk.nil) (do_v (pv 0)))) (do_w (de_c (d := .int 1) pe_int)))))
      (dss_one (ds_asg (de_brx 0 (de_tup (dws_cons (de_ixD (ixd_any (hr64 hr)) (do_w (de_fld (cs := ["Rival"]) (FldOk.cons T.cls_Rival T.noat_Rival_names FldOk.nil) (do_v (pv 0)))) (do_w (de_binD od_add (do_v (pv 1)) (do_w (de_c (d := .int 1) pe_int)))) (fun _ _ => rfl)) (dws_cons (de_ixD (ixd_any (hr64 hr)) (do_w (de_fld (cs := ["Rival"]) (FldOk.cons T.cls_Rival T.noat_Rival_names FldOk.nil) (do_v (pv 0)))) (do_v (pv 1)) (fun _ _ => rfl)) dws_nil)))) (dg_tup (PB.pg_tupK (K := K) 2 rfl (pgs_cons (dg_setP (PthOk.fld (FldOk.cons T.cls_Rival T.noat_Rival_names FldOk.nil) PthOk.nil) (pg_sub (ppt_fld (cs := ["Rival"]) (ppt_nil (pv 0))) (de_var (pv 1)) (PSet.or set_list (set_dict (hr64 hr) rfl rfl)))) (pgs_cons (dg_setP (PthOk.fld (FldOk.cons T.cls_Rival T.noat_Rival_names FldOk.nil) PthOk.nil) (pg_sub (ppt_fld (cs := ["Rival"]) (ppt_nil (pv 0))) (de_binD od_add (do_v (pv 1)) (do_w (de_c (d := .int 1) pe_int))) (PSet.or set_list (set_dict (hr64 hr) rfl rfl)))) pgs_nil))) rfl (lift_gsCons (lift_gsCons lift_gsNil)))))))), ?_⟩
    refine body_of (ms := [true, false]) (np := 2) h fun ds Qd Xd h => ?_
    obtain ⟨R, c, k, rfl, hl, hh⟩ := h
    refine ⟨rfl, rfl, ?_⟩
    rcases hh with ⟨k, rfl, hk, hh⟩ | ⟨hk, hh⟩
    · refine ⟨fun ρ' => ρ' = [some (rvD R c), some (.int k)], ?_, ?_⟩
      · walk_at "dx"
        rw [decide_eq_false (by omega), if_neg (by simp), rv_fn]
        refine ⟨rv_may _ _, ?_⟩
        walk_at "dx"
        rw [List.length_map, decide_eq_false (by omega), if_neg (by simp)]
        trivial
      rintro ρ' rfl
      refine ⟨fun ρ' => ρ' = [some (rvD R (c + 1)), some (.int k)], ?_, ?_⟩
      · walk_at "dx"
        rw [rv_fc]
        walk_at "dx"
        exact ⟨rv_may _ _, rfl, by decide, rfl⟩
      rintro ρ' rfl
      have h1 : atI (R.map D.str) ((k : Int) + 1) = some (.str R[k + 1]) := by
        rw [show (k : Int) + 1 = ((k + 1 : Nat) : Int) by push_cast; rfl]
        exact L2.atI_nat (by rw [List.getElem?_map, List.getElem?_eq_getElem hk]; rfl)
      have h2 : atI (R.map D.str) (k : Int) = some (.str R[k]) := L2.atI_nat (by rw [List.getElem?_map, List.getElem?_eq_getElem (by omega)]; rfl)
      walk_at "dx"
      simp only [rv_fn]
      refine ⟨rv_may _ _, ?_⟩
      walk_at "dx"
      rw [h1, onSome_some, h2, onSome_some]
      walk_at "dx"
      rw [rv_gn]
      walk_at "dx"
      rw [List.length_map, ixNat (show k < R.length by omega), onSome_some, ← List.map_set, rv_sn, rv_gn]
      walk_at "dx"
      rw [List.length_map, List.length_set, show (k : Int) + 1 = ((k + 1 : Nat) : Int) by push_cast; rfl, ixNat hk, onSome_some, ← List.map_set, rv_sn, swp_set hk]
      exact hh
    · refine ⟨fun _ => False, ?_, fun _ h => h.elim⟩
      walk_at "dx"
      by_cases h0 : k < 0
      · rw [decide_eq_true h0, if_pos rfl]
        exact ⟨rfl, hh⟩
      · rw [decide_eq_false h0, if_neg (by simp), rv_fn]
        refine ⟨rv_may _ _, ?_⟩
        walk_at "dx"
        rw [List.length_map, decide_eq_true (by omega), if_pos rfl]
        exact ⟨rfl, hh⟩
end
section
open DL
def dsp_Rival_put : DSp := fun ds Q X => ∃ (R : List Str) (c : Int) (n : Str) (k : Int), ds = [rvD R c, .str n, .int k] ∧ R.length ≤ 1000 ∧ ((∃ j : Nat, k = j ∧ n ∉ R ∧ j ≤ R.length ∧ Q .non [rvD (insAt R j n) c, .str n, .int k]) ∨ (n ∈ R ∧ X (caseThere n) ds) ∨ (n ∉ R ∧ (k < 0 ∨ (R.length : Int) < k) ∧ X (invMove k) ds))
theorem ok_Rival_put {P : Program} {w : World} {K : PySem.W.Frag} {mg : Str → Option Value} {base : Heap} (T : Tx P K mg) : OkM P w K mg base (L2.CX P w) 4 "Rival" "put" ["self", "name", "at"] [] (spOf ⟨K, w⟩ dsp_Rival_put) := by
  obtain ⟨fd, F⟩ := T.d_Rival_put
  refine ⟨fd, [], F.ok sc_Rival_put (fun vs H Q E h => ?len) (fun cdv A outer s H vs Q E hr h => ?body), T.cls_Rival, T.meth_Rival_put, F.bindsN fun _ _ _ _ _ _ us hl => match us, hl with | [_, _, _], _ => rfl, .nil⟩
  case len =>
    obtain ⟨A, F, ds, Qd, Xd, p, nd, al, h, hq, hx⟩ := h
    rw [RpA.len _ _ _ p]
    show ds.length = 3
    obtain ⟨_, _, _, _, rfl, _⟩ := h; rfl
  case body =>
    refine ⟨_, (show DSs (⟨K, w⟩ : Bs) _ (prOf [true, false, false] vs) (fun c d _ H => E c d H) _ _ from (dss_cut (ds_if (dt_brx 0 (dt_cmpD (od_inX (hr64 hr)) (do_v (pv 1)) (do_w (de_fld (cs := ["Rival"]) (FldOk.cons T.cls_Rival T.noat_Rival_names FldOk.nil) (do_v (pv 0)))) (by rfl))) (dss_one (ds_raiseF rfl (takes_of rfl rfl rfl rfl) (okX_CaseThere T) (hr.mono (by decide)) (dos_cons (do_w (de_var (pv 1))) dos_nil))) dss_nil)
      (dss_cut (ds_if (dw_pt (dw_or (dt_cmpD od_lt (do_v (pv 2)) (do_w (de_c (d := .int 0) pe_int)) (nomark _)) (dw_or1 (dt_brx 0 (dt_cmpD od_gt (do_v (pv 2)) (do_w (de_callBD cd_len (by rfl) T.f_len PySem.boot_len (dos_cons (do_w (de_fld (cs := ["Rival"]) (FldOk.cons T.cls_Rival T.noat_Rival_names FldOk.nil) (do_v (pv 0)))) dos_nil))) (nomark _)))))) (dss_one (ds_raiseF rfl (takes_of rfl rfl rfl rfl) (okX_InvalidMove T) (hr.mono (by decide)) (dos_cons (do_w (de_var (pv 2))) dos_nil))) dss_nil)
      (dss_one (ds_expr (de_lmP sm_ins PySem.F.slot_list_insert PySem.F.type_list_insert PB.mt_insN (PthOk.fld (FldOk.cons T.cls_Rival T.noat_Rival_names FldOk.nil) PthOk.nil) (ppt_fld (cs := ["Rival"]) (ppt_nil (pv 0))) (dws_cons (de_var (pv 2)) (dws_cons (de_var (pv 1)) dws_nil)))))))), ?_⟩
    refine body_of (ms := [true, false, false]) (np := 3) h fun ds Qd Xd h => ?_
    obtain ⟨R, c, n, k, rfl, hl, hh⟩ := h
    refine ⟨rfl, rfl, ?_⟩
    rcases hh with ⟨k, rfl, hn, hk, hh⟩ | ⟨hn, hh⟩ | ⟨hn, hk, hh⟩
    · refine ⟨fun ρ' => ρ' = [some (rvD R c), some (.str n), some (.int k)], ?_, ?_⟩
      · walk_at "dx"
        rw [rv_fn]
        refine ⟨rv_may _ _, ?_⟩
        walk_at "dx"
        rw [flat_strs, any_strs, decide_eq_false hn, cond_true, if_neg (by simp)]
        trivial
      rintro ρ' rfl
      refine ⟨fun ρ' => ρ' = [some (rvD R c), some (.str n), some (.int k)], ?_, ?_⟩
      · walk_at "dx"
        rw [decide_eq_false (by omega), if_neg (by simp), rv_fn]
        refine ⟨rv_may _ _, ?_⟩
        walk_at "dx"
        rw [List.length_map, decide_eq_false (by omega), if_neg (by simp)]
        trivial
      rintro ρ' rfl
      walk_at "dx"
      rw [rv_gn, onLT_e]
      refine ⟨by rw [List.length_map]; omega, by omega, by omega, ?_⟩
      rw [Int.toNat_natCast, show List.take k (R.map D.str) ++ [D.str n] ++ List.drop k (R.map D.str) = (insAt R k n).map .str by unfold insAt; simp, rv_sn]
      exact hh
    · refine ⟨fun _ => False, ?_, fun _ h => h.elim⟩
      walk_at "dx"
      rw [rv_fn]
      refine ⟨rv_may _ _, ?_⟩
      walk_at "dx"
      rw [flat_strs, any_strs, decide_eq_true hn, cond_true, if_pos rfl]
      exact ⟨rfl, hh⟩
    · refine ⟨fun ρ' => ρ' = [some (rvD R c), some (.str n), some (.int k)], ?_, ?_⟩
      · walk_at "dx"
        rw [rv_fn]
        refine ⟨rv_may _ _, ?_⟩
        walk_at "dx"
        rw [flat_strs, any_strs, decide_eq_false hn, cond_true, if_neg (by simp)]
        trivial
      rintro ρ' rfl
      refine ⟨fun _ => False, ?_, fun _ h => h.elim⟩
      walk_at "dx"
      by_cases h0 : k < 0
      · rw [decide_eq_true h0, if_pos rfl]
        exact ⟨rfl, hh⟩
      · rw [decide_eq_false h0, if_neg (by simp), rv_fn]
        refine ⟨rv_may _ _, ?_⟩
        walk_at "dx"
        rw [List.length_map, decide_eq_true (by omega), if_pos rfl]
        exact ⟨rfl, hh⟩
end
section
open DL
def dsp_Rival_drop : DSp := fun ds Q X => ∃ (R : List Str) (c : Int) (n : Str), ds = [rvD R c, .str n] ∧ R.length ≤ 1000 ∧ ((∃ i : Nat, R.Nodup ∧ R[i]? = some n ∧ Q .non [rvD (R.eraseIdx i) c, .str n]) ∨ (n ∉ R ∧ X (noCase n) ds))
theorem ok_Rival_drop {P : Program} {w : World} {K : PySem.W.Frag} {mg : Str → Option Value} {base : Heap} (T : Tx P K mg) : OkM P w K mg base (L2.CX P w) 5 "Rival" "drop" ["self", "name"] [] (spOf ⟨K, w⟩ dsp_Rival_drop) := by
  obtain ⟨fd, F⟩ := T.d_Rival_drop
  refine ⟨fd, [], F.ok sc_Rival_drop (fun vs H Q E h => ?len) (fun cdv A outer s H vs Q E hr h => ?body), T.cls_Rival, T.meth_Rival_drop, F.bindsN fun _ _ _ _ _ _ us hl => match us, hl with | [_, _], _ => rfl, .nil⟩
  case len =>
    obtain ⟨A, F, ds, Qd, Xd, p, nd, al, h, hq, hx⟩ := h
    rw [RpA.len _ _ _ p]
    show ds.length = 2
    obtain ⟨_, _, _, rfl, _⟩ := h; rfl
  case body =>
    have O_place_of := ok_place_of (P := P) (w := w) (base := base) T
    have hvl : List.length vs = 2 := spOf_len h fun ds Qd Xd h => by
      obtain ⟨_, _, _, rfl, _⟩ := h; rfl
    obtain ⟨v0, v1, rfl⟩ := len2 hvl
    refine ⟨_, (show DSs (⟨K, w⟩ : Bs) _ (prOf [true, false] [v0, v1]) (fun c d _ H => E c d H) _ _ from (dss_one (ds_delX rfl (PthOk.fld (FldOk.cons T.cls_Rival T.noat_Rival_names FldOk.nil) PthOk.nil) (ppt_fld (cs := ["Rival"]) (ppt_nil (pv 0))) (de_call O_place_of rpa0 (hr.mono (by decide)) (pasT (takes_of rfl rfl rfl rfl)) (dos_cons (do_w (de_fld (cs := ["Rival"]) (FldOk.cons T.cls_Rival T.noat_Rival_names FldOk.nil) (do_v (pv 0)))) (dos_cons (do_w (de_var (pv 1))) dos_nil)))))), ?_⟩
    refine body_of (ms := [true, false]) (np := 2) h fun ds Qd Xd h => ?_
    obtain ⟨R, c, n, rfl, hl, hh⟩ := h
    refine ⟨rfl, rfl, ?_⟩
    rcases hh with ⟨i, nd, hi, hh⟩ | ⟨hn, hh⟩
    · have hil := (List.getElem?_eq_some_iff.mp hi).1
      refine .inl ?_
      walk_at "dx"
      rw [rv_gn, onLM_e]
      refine ⟨rv_may _ _, ?_⟩
      rw [rv_fn]
      walk_at "dx"
      refine ⟨R, n, rfl, hl, .inl ⟨i, nd, hi, ?_⟩⟩
      walk_at "dx"
      rw [List.length_map, ixNat hil, onSome_some, eraseMap, rv_sn]
      exact hh
    · refine .inr ⟨⟨rvD R c, _, rfl, rv_gn R c⟩, ?_⟩
      walk_at "dx"
      rw [rv_fn]
      walk_at "dx"
      exact ⟨rv_may _ _, R, n, rfl, hl, .inr ⟨hn, rfl, rfl, hh⟩⟩
end
section
open DL
def nmPool : List Str := ["int", "str", "list", "a", "A", "b b", "~", " ", "0", "10", "9", "a case of twenty ab", "aa", "ab"]
theorem nmPool_nd : nmPool.Nodup := by decide +kernel
theorem perm_map {α : Type} {f : α → D} : ∀ {xs : List α} {ys : List D}, ys.Perm (xs.map f) → ∃ zs : List α, ys = zs.map f ∧ zs.Perm xs := by
  intro xs ys h
  have : ∀ {as bs : List D}, as.Perm bs → ∀ xs : List α, bs = xs.map f → ∃ zs : List α, as = zs.map f ∧ zs.Perm xs := by
    intro as bs h
    induction h with
    | nil => intro xs e; exact ⟨[], rfl, by cases xs with | nil => exact .refl _ | cons _ _ => cases e⟩
    | @cons a l1 l2 _ ih =>
      intro xs e
      cases xs with
      | nil => cases e
      | cons x xs =>
        rw [List.map_cons, List.cons.injEq] at e
        obtain ⟨rfl, e⟩ := e
        obtain ⟨zs, rfl, p⟩ := ih xs e
        exact ⟨x :: zs, rfl, p.cons x⟩
    | swap a b l =>
      intro xs e
      match xs, e with
      | x :: y :: xs, e =>
        simp only [List.map_cons, List.cons.injEq] at e
        obtain ⟨rfl, rfl, rfl⟩ := e
        exact ⟨y :: x :: xs, rfl, .swap ..⟩
      | [], e => cases e
      | [_], e => simp at e
    | trans _ _ ih1 ih2 =>
      intro xs e
      obtain ⟨zs, rfl, p⟩ := ih2 xs e
      obtain ⟨ws, rfl, p2⟩ := ih1 zs rfl
      exact ⟨ws, rfl, p2.trans p⟩
  exact this h xs rfl
def dsp_l_p_names : DSp := fun ds Q _ => ∃ (n k : Nat), ds = [.spring n, .int k] ∧ n < 8000000 ∧ k ≤ 14 ∧ ∀ (n2 : Nat) (ys : List Str), n2 ≤ n + 14 → ys.length = k → ys.Nodup → (∀ y ∈ ys, y ∈ nmPool) → Q (.lst true (ys.map .str)) [.spring n2, .int k]
theorem ok_l_p_names {P : Program} {w : World} {K : PySem.W.Frag} {mg : Str → Option Value} {base : Heap} (T : Tx P K mg) : OkF P w K mg base CX0 3 "_law_p_names" ["_law_stream", "_law_many"] [] (spOf ⟨K, w⟩ dsp_l_p_names) := by
  obtain ⟨fd, F⟩ := T.d_l_p_names
  refine ⟨fd, [], F.ok sc_l_p_names (fun vs H Q E h => ?len) (fun cdv A outer s H vs Q E hr h => ?body), T.g_l_p_names, F.kp, F.bindsN fun _ _ _ _ _ _ us hl => match us, hl with | [_, _], _ => rfl, .nil⟩
  case len =>
    obtain ⟨A, F, ds, Qd, Xd, p, nd, al, h, hq, hx⟩ := h
    rw [RpA.len _ _ _ p]
    show ds.length = 2
    obtain ⟨_, _, rfl, _⟩ := h; rfl
  case body =>
    have O_l_mixed := ok_l_mixed (P := P) (w := w) (base := base) T
    refine ⟨_, PSs.nox (show DSs (⟨K, w⟩ : Bs) _ (prOf [true, false] vs) W0 _ _ from (dss_cons (ds_set (i := 2) sc_l_p_names.nd rfl (Or.inl rfl) (de_lst (dws_cons (de_c (d := .str "int") pe_str) (dws_cons (de_c (d := .str "str") pe_str) (dws_cons (de_c (d := .str "list") pe_str) (dws_cons (de_c (d := .str "a") pe_str) (dws_cons (de_c (d := .str "A") pe_str) (dws_cons (de_c (d := .str "b b") pe_str) (dws_cons (de_c (d := .str "~") pe_str) (dws_cons (de_c (d := .str " ") pe_str) (dws_cons (de_c (d := .str "0") pe_str) (dws_cons (de_c (d := .str "10") pe_str) (dws_cons (de_c (d := .str "9") pe_str) (dws_cons (de_c (d := .str "a case of twenty ab") pe_str) (dws_cons (de_c (d := .str "aa") pe_str) (dws_cons (de_c (d := .str "ab") pe_str) dws_nil))))))))))))))))
      (dss_one (ds_ret (de_slice (do_w (de_call O_l_mixed rpa0 (hr.mono (by decide)) pas0 (dos_cons (do_v (pv 0)) (dos_cons (do_w (de_var (pv 2))) dos_nil)))) dpo_none (dpo_some (de_var (pv 1)))))))), ?_⟩
    refine body_of0 (ms := [true, false]) (np := 2) h fun ds Qd Xd h => ?_
    obtain ⟨n, k, rfl, hn, hk, hh⟩ := h
    refine ⟨rfl, rfl, ?_⟩
    walk_at "dx"
    refine ⟨n, nmPool.map .str, rfl, by omega, by decide, fun x hx => by obtain ⟨z, _, rfl⟩ := List.mem_map.mp hx; rfl, fun m ys hm hp => ?_⟩
    obtain ⟨zs, rfl, hp2⟩ := perm_map hp
    clear hp
    walk_at "dx"
    have hl := hp2.length_eq
    have h14 : nmPool.length = 14 := rfl
    rw [cutTo (by rw [List.length_map]; omega), ← List.map_take]
    exact hh m (zs.take k) (by rw [List.length_map] at hm; omega) (by rw [List.length_take]; omega) ((hp2.nodup_iff.mpr nmPool_nd).sublist (List.take_sublist ..)) fun y hy => hp2.mem_iff.mp (List.mem_of_mem_take hy)
end
section
open DL
/-- moves that are refused -/
inductive Mv where
  | callN (n : Str) (u : Option Int) | callI (n : Str) (t : Int) | exch (k : Int) | putC (n : Str) (k : Int) | putI (n : Str) (k : Int) | drop (n : Str)
def optD : Option Int → D
  | none => .non
  | some t => .int t
def Mv.d : Mv → D
  | .callN n u => .tup [.str "call", .str n, optD u]
  | .callI n t => .tup [.str "call", .str n, .int t]
  | .exch k => .tup [.str "exchange", .int k]
  | .putC n k => .tup [.str "put", .str n, .int k]
  | .putI n k => .tup [.str "put", .str n, .int k]
  | .drop n => .tup [.str "drop", .str n]
def Mv.due : Mv → List D
  | .callN n _ => [.str "NoCase", .str n]
  | .callI _ t => [.str "InvalidMove", .int t]
  | .exch k => [.str "InvalidMove", .int k]
  | .putC n _ => [.str "CaseThere", .str n]
  | .putI _ k => [.str "InvalidMove", .int k]
  | .drop n => [.str "NoCase", .str n]
def Mv.bad (R : List Str) : Mv → Prop
  | .callN n _ => n ∉ R
  | .callI n t => ∃ i : Nat, R[i]? = some n ∧ (t < 0 ∨ (i : Int) < t)
  | .exch k => k < 0 ∨ (R.length : Int) ≤ k + 1
  | .putC n _ => n ∈ R
  | .putI n k => n ∉ R ∧ (k < 0 ∨ (R.length : Int) < k)
  | .drop n => n ∉ R
abbrev mvCs : List Str := ["NoCase", "CaseThere", "InvalidMove"]
theorem mo_ (x c : Str) (ns : List Str) (ds : List D) (h : mvCs.contains c = true) : mOwn mvCs x (.fld c ns ds) = some (c == x || x == "PairError") := by rw [mOwn_f, if_pos h]
theorem mo_nn (ns : List Str) (ds : List D) : mOwn mvCs "NoCase" (.fld "NoCase" ns ds) = some true := (mo_ _ _ ns ds (by decide)).trans (by decide)
theorem mo_nc (ns : List Str) (ds : List D) : mOwn mvCs "NoCase" (.fld "CaseThere" ns ds) = some false := (mo_ _ _ ns ds (by decide)).trans (by decide)
theorem mo_ni (ns : List Str) (ds : List D) : mOwn mvCs "NoCase" (.fld "InvalidMove" ns ds) = some false := (mo_ _ _ ns ds (by decide)).trans (by decide)
theorem mo_cc (ns : List Str) (ds : List D) : mOwn mvCs "CaseThere" (.fld "CaseThere" ns ds) = some true := (mo_ _ _ ns ds (by decide)).trans (by decide)
theorem mo_ci (ns : List Str) (ds : List D) : mOwn mvCs "CaseThere" (.fld "InvalidMove" ns ds) = some false := (mo_ _ _ ns ds (by decide)).trans (by decide)
theorem mo_ii (ns : List Str) (ds : List D) : mOwn mvCs "InvalidMove" (.fld "InvalidMove" ns ds) = some true := (mo_ _ _ ns ds (by decide)).trans (by decide)
def dsp_l_p_move : DSp := fun ds Q _ => ∃ (R : List Str) (c : Int) (mv : Mv), ds = [rvD R c, mv.d] ∧ R.length ≤ 1000 ∧ R.Nodup ∧ mv.bad R ∧ Q (.lst true mv.due) ds
theorem ok_l_p_move {P : Program} {w : World} {K : PySem.W.Frag} {mg : Str → Option Value} {base : Heap} (T : Tx P K mg) : OkF P w K mg base CX0 6 "_law_p_move" ["_law_rival", "_law_move"] [] (spOf ⟨K, w⟩ dsp_l_p_move) := by
  obtain ⟨fd, F⟩ := T.d_l_p_move
  refine ⟨fd, [], F.ok sc_l_p_move (fun vs H Q E h => ?len) (fun cdv A outer s H vs Q E hr h => ?body), T.g_l_p_move, F.kp, F.bindsN fun _ _ _ _ _ _ us hl => match us, hl with | [_, _], _ => rfl, .nil⟩
  case len =>
    obtain ⟨A, F, ds, Qd, Xd, p, nd, al, h, hq, hx⟩ := h
    rw [RpA.len _ _ _ p]
    show ds.length = 2
    obtain ⟨_, _, _, rfl, _⟩ := h; rfl
  case body =>
    have O_Rival_call := ok_Rival_call_all (P := P) (w := w) (base := base) T
    have O_Rival_exchange := ok_Rival_exchange (P := P) (w := w) (base := base) T
    have O_Rival_put := ok_Rival_put (P := P) (w := w) (base := base) T
    have O_Rival_drop := ok_Rival_drop (P := P) (w := w) (base := base) T
    refine ⟨_, PSs.nox (show DSs (⟨K, w⟩ : Bs) _ (prOf [true, false] vs) W0 _ _ from (dss_one (ds_tryMany rfl rfl sc_l_p_move.nd takes0 (fun W pn xe tk po => (dss_cut (ds_if (dt_cmpD (od_eq (hr64 hr)) (do_w (de_ixD (ixd_any (hr64 hr)) (do_v (pv 1)) (do_w (de_c (d := .int 0) pe_int)) (fun _ _ => rfl))) (do_w (de_c (d := .str "call") pe_str)) (nomark _)) (dss_one (ds_expr (de_meth O_Rival_call rpa0 (hr.mono (by decide)) (pasT tk) (do_v (pv 0)) (dos_cons (do_w (de_ixD (ixd_any (hr64 hr)) (do_v (pv 1)) (do_w (de_c (d := .int 1) pe_int)) (fun _ _ => rfl))) (dos_cons (do_w (de_ixD (ixd_any (hr64 hr)) (do_v (pv 1)) (do_w (de_c (d := .int 2) pe_int)) (fun _ _ => rfl))) dos_nil))))) (dss_one (ds_if (dt_cmpD (od_eq (hr64 hr)) (do_w (de_ixD (ixd_any (hr64 hr)) (do_v (pv 1)) (do_w (de_c (d := .int 0) pe_int)) (fun _ _ => rfl))) (do_w (de_c (d := .str "exchange") pe_str)) (nomark _)) (dss_one (ds_expr (de_meth O_Rival_exchange rpa0 (hr.mono (by decide)) (pasT tk) (do_v (pv 0)) (dos_cons (do_w (de_ixD (ixd_any (hr64 hr)) (do_v (pv 1)) (do_w (de_c (d := .int 1) pe_int)) (fun _ _ => rfl))) dos_nil)))) (dss_one (ds_if (dt_cmpD (od_eq (hr64 hr)) (do_w (de_ixD (ixd_any (hr64 hr)) (do_v (pv 1)) (do_w (de_c (d := .int 0) pe_int)) (fun _ _ => rfl))) (do_w (de_c (d := .str "put") pe_str)) (nomark _)) (dss_one (ds_expr (de_meth O_Rival_put rpa0 (hr.mono (by decide)) (pasT tk) (do_v (pv 0)) (dos_cons (do_w (de_ixD (ixd_any (hr64 hr)) (do_v (pv 1)) (do_w (de_c (d := .int 1) pe_int)) (fun _ _ => rfl))) (dos_cons (do_w (de_ixD (ixd_any (hr64 hr)) (do_v (pv 1)) (do_w (de_c (d := .int 2) pe_int)) (fun _ _ => rfl))) dos_nil))))) (dss_one (ds_expr (de_meth O_Rival_drop rpa0 (hr.mono (by decide)) (pasT tk) (do_v (pv 0)) (dos_cons (do_w (de_ixD (ixd_any (hr64 hr)) (do_v (pv 1)) (do_w (de_c (d := .int 1) pe_int)) (fun _ _ => rfl))) dos_nil)))))))))
      (dss_one (ds_ret (de_lst (dws_cons (de_c (d := .str "done") pe_str) dws_nil)))))) (.cons (i := 2) rfl rfl T.exm_NoCase T.g_NoCase (fun a oe cls d pn hz hf y hy => (dss_one (ds_ret (de_lst (dws_cons (de_c (d := .str "NoCase") pe_str) (dws_cons (de_xf (c := "NoCase") (i := 2) T.xf_NoCase (T.x_NoCase.no "name" (by simp)) hz hf hy (pv 2)) dws_nil)))))) (.cons (i := 2) rfl rfl T.exm_CaseThere T.g_CaseThere (fun a oe cls d pn hz hf y hy => (dss_one (ds_ret (de_lst (dws_cons (de_c (d := .str "CaseThere") pe_str) (dws_cons (de_xf (c := "CaseThere") (i := 2) T.xf_CaseThere (T.x_CaseThere.no "name" (by simp)) hz hf hy (pv 2)) dws_nil)))))) (.cons (i := 2) rfl rfl T.exm_InvalidMove T.g_InvalidMove (fun a oe cls d pn hz hf y hy => (dss_one (ds_ret (de_lst (dws_cons (de_c (d := .str "InvalidMove") pe_str) (dws_cons (de_xf (c := "InvalidMove") (i := 2) T.xf_InvalidMove (T.x_InvalidMove.no "place" (by simp)) hz hf hy (pv 2)) dws_nil)))))) .nil)))))), ?_⟩
    refine body_of0 (ms := [true, false]) (np := 2) h fun ds Qd Xd h => ?_
    obtain ⟨R, c, mv, rfl, hl, nd, hb, hh⟩ := h
    refine ⟨rfl, by cases mv with
      | callN n u => cases u <;> rfl
      | _ => rfl, ?_⟩
    cases mv with
    | callN n u =>
      refine ⟨fun _ => False, ?_, fun _ h => h.elim⟩
      have hb : n ∉ R := hb
      have e : (Mv.callN n u).d = .tup [.str "call", .str n, optD u] := rfl
      rw [e] at hh ⊢
      have hu : optD u = .non ∨ ∃ t : Int, optD u = .int t := by cases u with
        | none => exact .inl rfl
        | some t => exact .inr ⟨t, rfl⟩
      generalize optD u = x at hu hh ⊢
      have hxf : x.isFz = true := by rcases hu with rfl | ⟨t, rfl⟩ <;> rfl
      walk_at "dx"
      rw [rv_m _ _ _ _ (by decide), hxf, cond_true, D.may_fz _ hxf, cond_true, D.freeze_fz _ hxf]
      refine ⟨R, c, n, x, rfl, hl, hu, .inr (.inl ⟨hb, ?_⟩)⟩
      dsimp only
      rw [hMany_hit (mo_nn _ _)]
      intro a cls d hx
      walk_at "dx"
      exact ⟨rfl, hh⟩
    | callI n t =>
      refine ⟨fun _ => False, ?_, fun _ h => h.elim⟩
      rw [show (Mv.callI n t).d = .tup [.str "call", .str n, .int t] from rfl] at hh ⊢
      obtain ⟨i, hi, ht⟩ := hb
      walk_at "dx"
      rw [rv_m _ _ _ _ (by decide)]
      refine ⟨R, c, n, .int t, rfl, hl, .inr ⟨t, rfl⟩, .inr (.inr ⟨i, t, nd, hi, rfl, ht, ?_⟩)⟩
      dsimp only
      rw [hMany_miss (mo_ni _ _), hMany_miss (mo_ci _ _), hMany_hit (mo_ii _ _)]
      intro a cls d hx
      walk_at "dx"
      exact ⟨rfl, hh⟩
    | exch k =>
      refine ⟨fun _ => False, ?_, fun _ h => h.elim⟩
      rw [show (Mv.exch k).d = .tup [.str "exchange", .int k] from rfl] at hh ⊢
      walk_at "dx"
      rw [if_neg (show ¬ (decide (("exchange" : Str) = "call") = true) by decide)]
      try rw [if_pos (show decide (("exchange" : Str) = "exchange") = true by decide)]
      rw [rv_m _ _ _ _ (by decide)]
      refine ⟨R, c, k, rfl, hl, .inr ⟨hb, ?_⟩⟩
      dsimp only
      rw [hMany_miss (mo_ni _ _), hMany_miss (mo_ci _ _), hMany_hit (mo_ii _ _)]
      intro a cls d hx
      walk_at "dx"
      exact ⟨rfl, hh⟩
    | putC n k =>
      refine ⟨fun _ => False, ?_, fun _ h => h.elim⟩
      rw [show (Mv.putC n k).d = .tup [.str "put", .str n, .int k] from rfl] at hh ⊢
      walk_at "dx"
      rw [if_neg (show ¬ (decide (("put" : Str) = "call") = true) by decide), if_neg (show ¬ (decide (("put" : Str) = "exchange") = true) by decide)]
      try rw [if_pos (show decide (("put" : Str) = "put") = true by decide)]
      rw [rv_m _ _ _ _ (by decide)]
      refine ⟨R, c, n, k, rfl, hl, .inr (.inl ⟨hb, ?_⟩)⟩
      dsimp only
      rw [hMany_miss (mo_nc _ _), hMany_hit (mo_cc _ _)]
      intro a cls d hx
      walk_at "dx"
      exact ⟨rfl, hh⟩
    | putI n k =>
      refine ⟨fun _ => False, ?_, fun _ h => h.elim⟩
      rw [show (Mv.putI n k).d = .tup [.str "put", .str n, .int k] from rfl] at hh ⊢
      walk_at "dx"
      rw [if_neg (show ¬ (decide (("put" : Str) = "call") = true) by decide), if_neg (show ¬ (decide (("put" : Str) = "exchange") = true) by decide)]
      try rw [if_pos (show decide (("put" : Str) = "put") = true by decide)]
      rw [rv_m _ _ _ _ (by decide)]
      refine ⟨R, c, n, k, rfl, hl, .inr (.inr ⟨hb.1, hb.2, ?_⟩)⟩
      dsimp only
      rw [hMany_miss (mo_ni _ _), hMany_miss (mo_ci _ _), hMany_hit (mo_ii _ _)]
      intro a cls d hx
      walk_at "dx"
      exact ⟨rfl, hh⟩
    | drop n =>
      refine ⟨fun _ => False, ?_, fun _ h => h.elim⟩
      rw [show (Mv.drop n).d = .tup [.str "drop", .str n] from rfl] at hh ⊢
      walk_at "dx"
      rw [if_neg (show ¬ (decide (("drop" : Str) = "call") = true) by decide), if_neg (show ¬ (decide (("drop" : Str) = "exchange") = true) by decide), if_neg (show ¬ (decide (("drop" : Str) = "put") = true) by decide)]
      try rw [if_pos (show decide (("drop" : Str) = "drop") = true by decide)]
      rw [rv_m _ _ _ _ (by decide)]
      refine ⟨R, c, n, rfl, hl, .inr ⟨hb, ?_⟩⟩
      dsimp only
      rw [hMany_hit (mo_nn _ _)]
      intro a cls d hx
      walk_at "dx"
      exact ⟨rfl, hh⟩
end
section
open DL
abbrev spLaw := DL.spLaw
theorem sub_len : ∀ {l m : List Str}, l.Nodup → (∀ x ∈ l, x ∈ m) → l.length ≤ m.length
  | [], _, _, _ => by simp
  | x :: l, m, nd, h => by
    have n2 := List.nodup_cons.mp nd
    have hx := h x (by simp)
    have := sub_len (l := l) (m := m.erase x) n2.2 fun y hy => (List.mem_erase_of_ne (fun e => n2.1 (by rw [← e]; exact hy))).mpr (h y (by simp [hy]))
    rw [List.length_erase_of_mem hx] at this
    have := List.length_pos_of_mem hx
    simp
    omega
theorem cut5 (pool : List Str) (hp : pool.length = 6) : DL.cutD (pool.map D.str) none (some 5) = (pool.take 5).map .str := by
  rw [show (5 : Int) = ((5 : Nat) : Int) from rfl, cutTo (by rw [List.length_map]; omega), List.map_take]
theorem cutz (pool : List Str) (hp : pool.length = 6) (z : Nat) (hz : z ≤ 5) : DL.cutD (pool.map D.str) (some (z : Int)) (some 5) = ((pool.take 5).drop z).map .str := by
  unfold DL.cutD
  rw [show (5 : Int) = ((5 : Nat) : Int) from rfl, HT.sIx_nat, HT.sIx_nat, List.length_map, hp, Nat.min_eq_left (by omega), Nat.min_eq_left (by omega), List.drop_take, List.map_take, List.map_drop]
def mvT (mv : Mv) : D := .tup [mv.d, .lst false mv.due]
theorem mv_fz (mv : Mv) : mv.d.isFz = true := by cases mv with
  | callN n u => cases u <;> rfl
  | _ => rfl
theorem mvT_fz (mv : Mv) : (mvT mv).isFz = true := by cases mv with
  | callN n u => cases u <;> rfl
  | _ => rfl
/-- the rival's list: from the pool's first five, not empty -/
def RGood (pool R : List Str) : Prop := R.Nodup ∧ (∀ x ∈ R, x ∈ pool.take 5) ∧ R ≠ []
theorem mem_erase {R : List Str} {i : Nat} {n x : Str} (nd : R.Nodup) (hi : R[i]? = some n) : x ∈ R.eraseIdx i ↔ x ∈ R ∧ x ≠ n := by
  induction R generalizing i with
  | nil => simp at hi
  | cons y R ih =>
    have n2 := List.nodup_cons.mp nd
    cases i with
    | zero =>
      have : y = n := by simpa using hi
      subst this
      rw [List.eraseIdx_cons_zero, List.mem_cons]
      constructor
      · intro h
        exact ⟨.inr h, fun e => n2.1 (e ▸ h)⟩
      · rintro ⟨h | h, hne⟩
        · exact absurd h hne
        · exact h
    | succ i =>
      have hi : R[i]? = some n := by simpa using hi
      rw [List.eraseIdx_cons_succ, List.mem_cons, ih n2.2 hi, List.mem_cons]
      constructor
      · rintro (h | ⟨h1, h2⟩)
        · subst h
          exact ⟨.inl rfl, fun e => n2.1 (e ▸ List.mem_of_getElem? hi)⟩
        · exact ⟨.inr h1, h2⟩
      · rintro ⟨h | h, hne⟩
        · exact .inl h
        · exact .inr ⟨h, hne⟩
theorem ins_perm (l : List Str) (k : Nat) (x : Str) : (insAt l k x).Perm (x :: l) := by
  unfold insAt
  rw [List.append_assoc]
  refine (List.perm_middle (a := x) (l₁ := l.take k) (l₂ := l.drop k)).trans ?_
  rw [List.take_append_drop]
theorem erase_perm {R : List Str} {i : Nat} {n : Str} (hi : R[i]? = some n) : (n :: R.eraseIdx i).Perm R := by
  obtain ⟨h, e⟩ := List.getElem?_eq_some_iff.mp hi
  subst e
  exact perm_erase R i h
theorem move_perm {R : List Str} {i t : Nat} {n : Str} (hi : R[i]? = some n) : (insAt (R.eraseIdx i) t n).Perm R := (ins_perm _ _ _).trans (erase_perm hi)
theorem RGood.perm {pool R R' : List Str} (h : RGood pool R) (p : R'.Perm R) : RGood pool R' := ⟨p.nodup_iff.mpr h.1, fun x hx => h.2.1 x (p.mem_iff.mp hx), fun e => h.2.2 (by rw [e] at p; exact List.nil_perm.mp p)⟩
theorem RGood.len {pool R : List Str} (h : RGood pool R) : R.length ≤ 5 := by
  have := sub_len h.1 h.2.1
  rw [List.length_take] at this
  omega
theorem ok_law {P : Program} {w : World} {K : PySem.W.Frag} {mg : Str → Option Value} {base : Heap} (T : Tx P K mg) {fd : FuncData} (F : FunD K "law" "law" (defArgs (topS 16)) (defBody (topS 16)) (defScope (topS 16)) [] [] (He.ga K "law") fd) : FnOk P w K mg base CX0 10 (He.ga K "law") fd ["_law_script"] (spLaw K) := by
  refine FnOk.imp (sp := spOf ⟨K, w⟩ dspLaw) (F.ok sc_law (fun vs H Q E h => ?len) (fun cdv A outer s H vs Q E hr h => ?body)) law_sp
  case len =>
    obtain ⟨A, F, ds, Qd, Xd, p, nd, al, h, hq, hx⟩ := h
    rw [RpA.len _ _ _ p]
    show ds.length = 1
    first | (unfold dspLaw at h; split at h <;> first | rfl | exact h.elim) | (obtain ⟨_, rfl, _⟩ := h; rfl) | (obtain ⟨_, _, rfl, _⟩ := h; rfl) | (obtain ⟨_, _, _, rfl, _⟩ := h; rfl) | (obtain ⟨_, _, _, _, rfl, _⟩ := h; rfl) | (obtain ⟨_, _, _, _, _, rfl, _⟩ := h; rfl)
  case body =>
    have O_l_start := okD_l_start (P := P) (w := w) (base := base) T
    have O_l_p_names := ok_l_p_names (P := P) (w := w) (base := base) T
    have O_l_draw := okD_l_draw (P := P) (w := w) (base := base) T
    have O_Rival := ok_Rival_DinitD (P := P) (w := w) (base := base) T
    have O_Rival_drop := ok_Rival_drop (P := P) (w := w) (base := base) T
    have O_Rival_order := ok_Rival_order (P := P) (w := w) (base := base) T
    have O_l_pick := ok_l_pick (P := P) (w := w) (base := base) T
    have O_Rival_call := ok_Rival_call_all (P := P) (w := w) (base := base) T
    have O_l_mixed := ok_l_mixed (P := P) (w := w) (base := base) T
    have O_l_same := ok_l_same (P := P) (w := w) (base := base) T
    have O_l_p_move := ok_l_p_move (P := P) (w := w) (base := base) T
    refine ⟨_, PSs.nox (show DSs (⟨K, w⟩ : Bs) _ (prOf [] vs) W0 _ _ from (dss_cut (ds_set (i := 1) sc_law.nd rfl (Or.inl rfl) (de_call O_l_start rpa0 (hr.mono (by decide)) pas0 (dos_cons (do_w (de_var (pv 0))) dos_nil)))
      (dss_cut (ds_set (i := 2) sc_law.nd rfl (Or.inl rfl) (de_call O_l_p_names rpa0 (hr.mono (by decide)) pas0 (dos_cons (do_v (pv 1)) (dos_cons (do_w (de_c (d := .int 6) pe_int)) dos_nil))))
      (dss_cut (ds_par2 (by rfl) sc_law.nd (i0 := 3) (i1 := 4) (dws_cons (de_make O_Rival rpa0 (hr.mono (by decide)) pas0 (dos_cons (do_w (de_slice (do_v (pv 2)) dpo_none (dpo_some (de_c (d := .int 5) pe_int)))) dos_nil)) (dws_cons (de_binD od_add (do_w (de_c (d := .int 1) pe_int)) (do_w (de_call O_l_draw rpa0 (hr.mono (by decide)) pas0 (dos_cons (do_v (pv 1)) (dos_cons (do_w (de_c (d := .int 5) pe_int)) dos_nil))))) dws_nil)))
      (dss_cut (ds_for PassesOwn.never rfl (di_seq (de_slice (do_v (pv 2)) (dpo_some (de_var (pv 4))) (dpo_some (de_c (d := .int 5) pe_int)))) (dg_name (pg_name (i := 5) sc_law.nd rfl (Or.inl rfl))) (dss_one (ds_expr (de_meth O_Rival_drop rpa0 (hr.mono (by decide)) PB.pasF (do_v (pv 3)) (dos_cons (do_w (de_var (pv 5))) dos_nil)))))
      (dss_cut (ds_for PassesOwn.never rfl (di_range1 (by rfl) T.f_range (do_w (de_c (d := .int 4) pe_int))) (dg_name (pg_name (i := 6) sc_law.nd rfl (Or.inl rfl))) (dss_cut (ds_set (i := 7) sc_law.nd rfl (Or.inl rfl) (de_prop O_Rival_order (hr.mono (by decide)) (do_v (pv 3))))
      (dss_cut (ds_set (i := 5) sc_law.nd rfl (Or.inl rfl) (de_call O_l_pick rpa0 (hr.mono (by decide)) pas0 (dos_cons (do_v (pv 1)) (dos_cons (do_w (de_var (pv 7))) dos_nil))))
      (dss_cut (ds_set (i := 8) sc_law.nd rfl (Or.inl rfl) (de_call O_l_draw rpa0 (hr.mono (by decide)) pas0 (dos_cons (do_v (pv 1)) (dos_cons (do_w (de_binD od_add (do_w (de_idx (pv 7) (dws_cons (de_var (pv 5)) dws_nil))) (do_w (de_c (d := .int 1) pe_int)))) dos_nil))))
      (dss_cut (ds_expr (de_meth O_Rival_call rpa0 (hr.mono (by decide)) PB.pasF (do_v (pv 3)) (dos_cons (do_w (de_var (pv 5))) (dos_cons (do_w (de_var (pv 8))) dos_nil))))
      (dss_cut (ds_par2 (by rfl) sc_law.nd (i0 := 7) (i1 := 9) (dws_cons (de_prop O_Rival_order (hr.mono (by decide)) (do_v (pv 3))) (dws_cons (de_pk (PthOk.fld (FldOk.cons T.cls_Rival T.noat_Rival_cost FldOk.nil) PthOk.nil) (ppt_fld (cs := ["Rival"]) (ppt_nil (pv 3)))) dws_nil)))
      (dss_cut (ds_par3 (by rfl) sc_law.nd (i0 := 10) (i1 := 11) (i2 := 12) (dws_cons (de_call O_l_pick rpa0 (hr.mono (by decide)) pas0 (dos_cons (do_v (pv 1)) (dos_cons (do_w (de_var (pv 7))) dos_nil))) (dws_cons (de_ixD (ixd_any (hr64 hr)) (do_v (pv 2)) (do_w (de_c (d := .int 5) pe_int)) (fun _ _ => rfl)) (dws_cons (de_binD od_add (do_w (de_c (d := .int 1) pe_int)) (do_w (de_binD od_mul (do_w (de_call O_l_draw rpa0 (hr.mono (by decide)) pas0 (dos_cons (do_v (pv 1)) (dos_cons (do_w (de_c (d := .int 3) pe_int)) dos_nil)))) (do_w (de_binD od_pow (do_w (de_c (d := .int 10) pe_int)) (do_w (de_c (d := .int 19) pe_int))))))) dws_nil))))
      (dss_cut (ds_par2 (by rfl) sc_law.nd (i0 := 13) (i1 := 4) (dws_cons (de_idx (pv 7) (dws_cons (de_var (pv 10)) dws_nil)) (dws_cons (de_callBD cd_len (by rfl) T.f_len PySem.boot_len (dos_cons (do_v (pv 7)) dos_nil)) dws_nil)))
      (dss_cut (ds_set (i := 14) sc_law.nd rfl (Or.inl rfl) (de_lst (dws_cons (de_tup (dws_cons (de_tup (dws_cons (de_c (d := .str "call") pe_str) (dws_cons (de_var (pv 10)) (dws_cons (de_binD od_add (do_v (pv 13)) (do_v (pv 12))) dws_nil)))) (dws_cons (de_fz (de_lst (dws_cons (de_c (d := .str "InvalidMove") pe_str) (dws_cons (de_binD od_add (do_v (pv 13)) (do_v (pv 12))) dws_nil)))) dws_nil))) (dws_cons (de_tup (dws_cons (de_tup (dws_cons (de_c (d := .str "call") pe_str) (dws_cons (de_var (pv 10)) (dws_cons (de_un un_neg sim_neg (do_w (de_c (d := .int 1) pe_int))) dws_nil)))) (dws_cons (de_fz (de_lst (dws_cons (de_c (d := .str "InvalidMove") pe_str) (dws_cons (de_un un_neg sim_neg (do_w (de_c (d := .int 1) pe_int))) dws_nil)))) dws_nil))) dws_nil))))
      (dss_cut (ds_set (i := 14) sc_law.nd rfl (Or.inl rfl) (de_binD od_add (do_v (pv 14)) (do_w (de_lst (dws_cons (de_tup (dws_cons (de_tup (dws_cons (de_c (d := .str "call") pe_str) (dws_cons (de_var (pv 10)) (dws_cons (de_un un_neg sim_neg (do_v (pv 12))) dws_nil)))) (dws_cons (de_fz (de_lst (dws_cons (de_c (d := .str "InvalidMove") pe_str) (dws_cons (de_un un_neg sim_neg (do_v (pv 12))) dws_nil)))) dws_nil))) (dws_cons (de_tup (dws_cons (de_tup (dws_cons (de_c (d := .str "call") pe_str) (dws_cons (de_var (pv 11)) (dws_cons (de_c (d := .int 0) pe_int) dws_nil)))) (dws_cons (de_fz (de_lst (dws_cons (de_c (d := .str "NoCase") pe_str) (dws_cons (de_var (pv 11)) dws_nil)))) dws_nil))) dws_nil))))))
      (dss_cut (ds_set (i := 14) sc_law.nd rfl (Or.inl rfl) (de_binD od_add (do_v (pv 14)) (do_w (de_lst (dws_cons (de_tup (dws_cons (de_tup (dws_cons (de_c (d := .str "call") pe_str) (dws_cons (de_var (pv 11)) (dws_cons (de_c (d := .non) pe_non) dws_nil)))) (dws_cons (de_fz (de_lst (dws_cons (de_c (d := .str "NoCase") pe_str) (dws_cons (de_var (pv 11)) dws_nil)))) dws_nil))) (dws_cons (de_tup (dws_cons (de_tup (dws_cons (de_c (d := .str "call") pe_str) (dws_cons (de_var (pv 11)) (dws_cons (de_un un_neg sim_neg (do_v (pv 12))) dws_nil)))) (dws_cons (de_fz (de_lst (dws_cons (de_c (d := .str "NoCase") pe_str) (dws_cons (de_var (pv 11)) dws_nil)))) dws_nil))) dws_nil))))))
      (dss_cut (ds_set (i := 14) sc_law.nd rfl (Or.inl rfl) (de_binD od_add (do_v (pv 14)) (do_w (de_lst (dws_cons (de_tup (dws_cons (de_tup (dws_cons (de_c (d := .str "exchange") pe_str) (dws_cons (de_binD od_sub (do_v (pv 4)) (do_w (de_c (d := .int 1) pe_int))) dws_nil))) (dws_cons (de_fz (de_lst (dws_cons (de_c (d := .str "InvalidMove") pe_str) (dws_cons (de_binD od_sub (do_v (pv 4)) (do_w (de_c (d := .int 1) pe_int))) dws_nil)))) dws_nil))) (dws_cons (de_tup (dws_cons (de_tup (dws_cons (de_c (d := .str "exchange") pe_str) (dws_cons (de_un un_neg sim_neg (do_w (de_c (d := .int 1) pe_int))) dws_nil))) (dws_cons (de_fz (de_lst (dws_cons (de_c (d := .str "InvalidMove") pe_str) (dws_cons (de_un un_neg sim_neg (do_w (de_c (d := .int 1) pe_int))) dws_nil)))) dws_nil))) dws_nil))))))
      (dss_cut (ds_set (i := 14) sc_law.nd rfl (Or.inl rfl) (de_binD od_add (do_v (pv 14)) (do_w (de_lst (dws_cons (de_tup (dws_cons (de_tup (dws_cons (de_c (d := .str "exchange") pe_str) (dws_cons (de_binD od_add (do_v (pv 4)) (do_v (pv 12))) dws_nil))) (dws_cons (de_fz (de_lst (dws_cons (de_c (d := .str "InvalidMove") pe_str) (dws_cons (de_binD od_add (do_v (pv 4)) (do_v (pv 12))) dws_nil)))) dws_nil))) (dws_cons (de_tup (dws_cons (de_tup (dws_cons (de_c (d := .str "drop") pe_str) (dws_cons (de_var (pv 11)) dws_nil))) (dws_cons (de_fz (de_lst (dws_cons (de_c (d := .str "NoCase") pe_str) (dws_cons (de_var (pv 11)) dws_nil)))) dws_nil))) dws_nil))))))
      (dss_cut (ds_set (i := 14) sc_law.nd rfl (Or.inl rfl) (de_binD od_add (do_v (pv 14)) (do_w (de_lst (dws_cons (de_tup (dws_cons (de_tup (dws_cons (de_c (d := .str "put") pe_str) (dws_cons (de_var (pv 10)) (dws_cons (de_c (d := .int 0) pe_int) dws_nil)))) (dws_cons (de_fz (de_lst (dws_cons (de_c (d := .str "CaseThere") pe_str) (dws_cons (de_var (pv 10)) dws_nil)))) dws_nil))) (dws_cons (de_tup (dws_cons (de_tup (dws_cons (de_c (d := .str "put") pe_str) (dws_cons (de_var (pv 10)) (dws_cons (de_un un_neg sim_neg (do_v (pv 12))) dws_nil)))) (dws_cons (de_fz (de_lst (dws_cons (de_c (d := .str "CaseThere") pe_str) (dws_cons (de_var (pv 10)) dws_nil)))) dws_nil))) dws_nil))))))
      (dss_cut (ds_set (i := 14) sc_law.nd rfl (Or.inl rfl) (de_binD od_add (do_v (pv 14)) (do_w (de_lst (dws_cons (de_tup (dws_cons (de_tup (dws_cons (de_c (d := .str "put") pe_str) (dws_cons (de_var (pv 11)) (dws_cons (de_binD od_add (do_v (pv 4)) (do_v (pv 12))) dws_nil)))) (dws_cons (de_fz (de_lst (dws_cons (de_c (d := .str "InvalidMove") pe_str) (dws_cons (de_binD od_add (do_v (pv 4)) (do_v (pv 12))) dws_nil)))) dws_nil))) dws_nil)))))
      (dss_cut (ds_set (i := 14) sc_law.nd rfl (Or.inl rfl) (de_binD od_add (do_v (pv 14)) (do_w (de_lst (dws_cons (de_tup (dws_cons (de_tup (dws_cons (de_c (d := .str "put") pe_str) (dws_cons (de_var (pv 11)) (dws_cons (de_un un_neg sim_neg (do_w (de_c (d := .int 1) pe_int))) dws_nil)))) (dws_cons (de_fz (de_lst (dws_cons (de_c (d := .str "InvalidMove") pe_str) (dws_cons (de_un un_neg sim_neg (do_w (de_c (d := .int 1) pe_int))) dws_nil)))) dws_nil))) dws_nil)))))
      (dss_one (ds_for PassesOwn.never rfl (di_seq (de_call O_l_mixed rpa0 (hr.mono (by decide)) pas0 (dos_cons (do_v (pv 1)) (dos_cons (do_w (de_var (pv 14))) dos_nil)))) (dg_tup (PB.pg_tupK (K := K) 2 rfl (pgs_cons (dg_name (pg_name (i := 15) sc_law.nd rfl (Or.inl rfl))) (pgs_cons (dg_name (pg_name (i := 16) sc_law.nd rfl (Or.inl rfl))) pgs_nil))) rfl (lift_gsCons (lift_gsCons lift_gsNil))) (dss_cut (ds_if (dt_not (dt_val (de_call O_l_same rpa0 (hr.mono (by decide)) pas0 (dos_cons (do_w (de_call O_l_p_move rpa0 (hr.mono (by decide)) pas0 (dos_cons (do_v (pv 3)) (dos_cons (do_w (de_var (pv 15))) dos_nil)))) (dos_cons (do_w (de_var (pv 16))) dos_nil))))) (dss_one (ds_ret (de_c (d := .bl false) pe_bl))) dss_nil)
      (dss_one (ds_if (dw_pt (dw_or (dt_not (dt_val (de_call O_l_same rpa0 (hr.mono (by decide)) pas0 (dos_cons (do_w (de_prop O_Rival_order (hr.mono (by decide)) (do_v (pv 3)))) (dos_cons (do_w (de_var (pv 7))) dos_nil))))) (dw_or1 (dt_not (dt_val (de_call O_l_same rpa0 (hr.mono (by decide)) pas0 (dos_cons (do_w (de_pk (PthOk.fld (FldOk.cons T.cls_Rival T.noat_Rival_cost FldOk.nil) PthOk.nil) (ppt_fld (cs := ["Rival"]) (ppt_nil (pv 3))))) (dos_cons (do_w (de_var (pv 9))) dos_nil)))))))) (dss_one (ds_ret (de_c (d := .bl false) pe_bl))) dss_nil)))))))))))))))))))))
      (dss_one (ds_ret (de_c (d := .bl true) pe_bl))))))))), ?_⟩
    refine body_of0 (ms := []) (np := 1) h fun ds Qd Xd h => ?_
    unfold dspLaw at h
    split at h
    · refine ⟨rfl, rfl, ?_⟩
      refine ⟨fun ρ' => ρ' = [some .script, some (.spring 0), none, none, none, none, none, none, none, none, none, none, none, none, none, none, none], ?_, ?_⟩
      · walk_at "dx"
        unfold dspStart
        dsimp only
        walk_at "dx"
        try rfl
      rintro ρ' rfl
      refine ⟨fun ρ' => ∃ (n : Nat) (pool : List Str), ρ' = [some .script, some (.spring n), some (.lst true (pool.map .str)), none, none, none, none, none, none, none, none, none, none, none, none, none, none] ∧ n ≤ 20 ∧ pool.length = 6 ∧ pool.Nodup, ?_, ?_⟩
      · walk_at "dx"
        refine ⟨0, 6, rfl, by decide, by decide, fun n2 ys h1 h2 h3 h4 => ?_⟩
        walk_at "dx"
        exact ⟨n2, ys, rfl, by omega, h2, h3⟩
      rintro ρ' ⟨n, pool, rfl, hn, hp6, hpn⟩
      have hp5 : (pool.take 5).length = 5 := by rw [List.length_take]; omega
      have hp5n : (pool.take 5).Nodup := hpn.sublist (List.take_sublist _ _)
      refine ⟨fun ρ' => ∃ (n z : Nat), ρ' = [some .script, some (.spring n), some (.lst true (pool.map .str)), some (rvD (pool.take 5) 0), some (.int (z : Nat)), none, none, none, none, none, none, none, none, none, none, none, none] ∧ n ≤ 21 ∧ 1 ≤ z ∧ z ≤ 5, ?_, ?_⟩
      · walk_at "dx"
        rw [cut5 _ hp6]
        refine ⟨pool.take 5, rfl, ?_⟩
        walk_at "dx"
        refine ⟨by decide, pow_ok (by decide) (by decide), by omega, fun r h1 h2 => ?_⟩
        walk_at "dx"
        exact ⟨n + 1, (1 + r).toNat, by rw [show (((1 + r).toNat : Nat) : Int) = 1 + r by omega], by omega, by omega, by omega⟩
      clear hn
      rintro ρ' ⟨n, z, rfl, hn, hz1, hz5⟩
      refine ⟨fun ρ' => ∃ (R : List Str) (c : Int) (x5 : Option D), ρ' = [some .script, some (.spring n), some (.lst true (pool.map .str)), some (rvD R c), some (.int (z : Nat)), x5, none, none, none, none, none, none, none, none, none, none, none] ∧ RGood pool R, ?_, ?_⟩
      · walk_at "dx"
        rw [cutz _ hp6 z hz5]
        have hd : ((pool.take 5).drop z).Nodup := hp5n.sublist (List.drop_sublist _ _)
        have h0 : ∃ x0, (pool.take 5)[0]? = some x0 := ⟨_, List.getElem?_eq_getElem (by omega)⟩
        obtain ⟨x0, h0⟩ := h0
        have h0d : x0 ∉ (pool.take 5).drop z := fun hx => by
          obtain ⟨j, hj⟩ := List.mem_iff_getElem?.mp hx
          rw [List.getElem?_drop] at hj
          have := (List.getElem?_inj (by omega) hp5n).mp (h0.trans hj.symm)
          omega
        have hm0 : ∀ x ∈ (pool.take 5).drop z, x ∈ pool.take 5 := fun x hx => List.mem_of_mem_drop hx
        generalize hns : (pool.take 5).drop z = ns at hd h0d hm0
        refine for_inv (fun k ρ' => ∃ (R : List Str) (c : Int) (x5 : Option D), ρ' = [some .script, some (.spring n), some (.lst true (pool.map .str)), some (rvD R c), some (.int (z : Nat)), x5, none, none, none, none, none, none, none, none, none, none, none] ∧ R.Nodup ∧ (∀ x ∈ R, x ∈ pool.take 5) ∧ x0 ∈ R ∧ ∀ x ∈ ns.drop k, x ∈ R) ⟨pool.take 5, 0, none, rfl, hp5n, fun _ h => h, List.mem_of_getElem? h0, hm0⟩ ?_ ?_
        · rintro k d ρ' hk ⟨R, c, x5, rfl, hRn, hRs, hR0, hRd⟩
          rw [List.getElem?_map] at hk
          obtain ⟨nm, hnm, rfl⟩ := Option.map_eq_some_iff.mp hk
          have hdk : ns.drop k = nm :: ns.drop (k + 1) := by
            obtain ⟨h1, h2⟩ := List.getElem?_eq_some_iff.mp hnm
            rw [List.drop_eq_getElem_cons h1, h2]
          have hnR : nm ∈ R := hRd nm (by rw [hdk]; simp)
          obtain ⟨i, hi⟩ := List.mem_iff_getElem?.mp hnR
          have hlen := sub_len hRn hRs
          walk_at "dx"
          rw [rv_m _ _ _ _ (by decide)]
          refine ⟨R, c, nm, rfl, by omega, .inl ⟨i, hRn, hi, ?_⟩⟩
          walk_at "dx"
          refine ⟨R.eraseIdx i, c, some (.str nm), rfl, hRn.sublist (List.eraseIdx_sublist _ _), fun x hx => hRs x ((mem_erase hRn hi).mp hx).1, (mem_erase hRn hi).mpr ⟨hR0, fun e => h0d (e ▸ List.mem_of_getElem? hnm)⟩, fun x hx => (mem_erase hRn hi).mpr ⟨hRd x (by rw [hdk]; simp [hx]), fun e => ?_⟩⟩
          have hdn : (ns.drop k).Nodup := hd.sublist (List.drop_sublist _ _)
          rw [hdk] at hdn
          exact (List.nodup_cons.mp hdn).1 (e ▸ hx)
        · rintro ρ' ⟨R, c, x5, rfl, hRn, hRs, hR0, hRd⟩
          exact ⟨R, c, x5, rfl, hRn, hRs, fun e => by rw [e] at hR0; simp at hR0⟩
      rintro ρ' ⟨R, c, x5, rfl, hg⟩
      have hot : ∀ {R : List Str}, RGood pool R → ∀ {y : Str}, pool[5]? = some y → y ∉ R := fun {R} hg {y} hy hR => by
        obtain ⟨j, hj⟩ := List.mem_iff_getElem?.mp (hg.2.1 y hR)
        rw [List.getElem?_take] at hj
        split at hj
        · have := (List.getElem?_inj (by omega) hpn).mp (hy.trans hj.symm)
          omega
        · cases hj
      refine ⟨fun ρ' => ∃ (n : Nat) (R : List Str) (c : Int) (x4 x5 x6 x7 x8 x9 x10 x11 x12 x13 x14 x15 x16 : Option D), ρ' = [some .script, some (.spring n), some (.lst true (pool.map .str)), some (rvD R c), x4, x5, x6, x7, x8, x9, x10, x11, x12, x13, x14, x15, x16], ?_, ?_⟩
      · walk_at "dx"
        refine ⟨by decide, by decide, ?_⟩
        refine for_inv (fun k ρ' => ∃ (n : Nat) (R : List Str) (c : Int) (x4 x5 x6 x7 x8 x9 x10 x11 x12 x13 x14 x15 x16 : Option D), ρ' = [some .script, some (.spring n), some (.lst true (pool.map .str)), some (rvD R c), x4, x5, x6, x7, x8, x9, x10, x11, x12, x13, x14, x15, x16] ∧ n ≤ 21 + 30 * k ∧ RGood pool R) ⟨n, R, c, _, _, _, _, _, _, _, _, _, _, _, _, _, rfl, by omega, hg⟩ ?_ ?_
        · clear hg hn
          rintro k d ρ' hk ⟨n, R, c, x4, x5, x6, x7, x8, x9, x10, x11, x12, x13, x14, x15, x16, rfl, hn, hg⟩
          obtain ⟨hlt, rfl⟩ := rng_get hk
          have hlen := hg.len
          have hnn : R.map D.str ≠ [] := fun e => hg.2.2 (List.map_eq_nil_iff.mp e)
          walk_at "dx"
          refine ⟨fun ρ' => ρ' = [some .script, some (.spring (n)), some (.lst true (pool.map .str)), some (rvD R c), x4, x5, some (.int (0 + (k : Int))), some (.lst true (R.map .str)), x8, x9, x10, x11, x12, x13, x14, x15, x16], ?_, ?_⟩
          · walk_at "dx"
            refine ⟨rfl, R, c, rfl, by omega, ?_⟩
            walk_at "dx"
          rintro ρ' rfl
          refine ⟨fun ρ' => ∃ nm : Str, ρ' = [some .script, some (.spring (n + 1)), some (.lst true (pool.map .str)), some (rvD R c), x4, some (.str nm), some (.int (0 + (k : Int))), some (.lst false (R.map .str)), x8, x9, x10, x11, x12, x13, x14, x15, x16] ∧ nm ∈ R, ?_, ?_⟩
          · walk_at "dx"
            refine ⟨n, false, R.map .str, rfl, by omega, hnn, by rw [List.length_map]; omega, fun x hx => by obtain ⟨z, _, rfl⟩ := List.mem_map.mp hx; rfl, fun x hx => ?_⟩
            obtain ⟨nm, hx2, rfl⟩ := List.mem_map.mp hx
            walk_at "dx"
            exact ⟨nm, rfl, hx2⟩
          rintro ρ' ⟨nm, rfl, hnm⟩
          refine ⟨fun ρ' => ∃ (t i : Nat), ρ' = [some .script, some (.spring (n + 1 + 1)), some (.lst true (pool.map .str)), some (rvD R c), x4, some (.str nm), some (.int (0 + (k : Int))), some (.lst false (R.map .str)), some (.int (t : Nat)), x9, x10, x11, x12, x13, x14, x15, x16] ∧ R[i]? = some nm ∧ t ≤ i, ?_, ?_⟩
          · walk_at "dx"
            obtain ⟨j, j1, j2⟩ := idxOf2 (f := D.str) (fun a b => D.eqv_str a b) nm R hnm
            have hjl := (List.getElem?_eq_some_iff.mp j2).1
            rw [j1, onSome_some]
            walk_at "dx"
            refine ⟨by first | exact flat_strs _ | omega, by omega, pow_ok (by omega) (by omega), by omega, fun r h1 h2 => ?_⟩
            walk_at "dx"
            exact ⟨r.toNat, j, by rw [show ((r.toNat : Nat) : Int) = r by omega], j2, by omega⟩
          rintro ρ' ⟨t, i, rfl, hi, hti⟩
          refine ⟨fun ρ' => ∃ (R : List Str) (c : Int) (x5 x7 x8 : Option D), ρ' = [some .script, some (.spring (n + 1 + 1)), some (.lst true (pool.map .str)), some (rvD R c), x4, x5, some (.int (0 + (k : Int))), x7, x8, x9, x10, x11, x12, x13, x14, x15, x16] ∧ RGood pool R, ?_, ?_⟩
          · walk_at "dx"
            rw [rv_m _ _ _ _ (by decide)]
            refine ⟨R, c, nm, .int (t : Nat), rfl, by omega, .inr ⟨_, rfl⟩, .inl ⟨i, _, hg.1, hi, .inr ⟨t, rfl, hti, rfl⟩, ?_⟩⟩
            walk_at "dx"
            exact ⟨_, _, _, _, _, rfl, hg.perm (move_perm hi)⟩
          clear hi hti hnm hnn hg hlen R c
          rintro ρ' ⟨R, c, x5, x7, x8, rfl, hg⟩
          have hlen := hg.len
          have hnn : R.map D.str ≠ [] := fun e => hg.2.2 (List.map_eq_nil_iff.mp e)
          refine ⟨fun ρ' => ρ' = [some .script, some (.spring (n + 1 + 1)), some (.lst true (pool.map .str)), some (rvD R c), x4, x5, some (.int (0 + (k : Int))), some (.lst true (R.map .str)), x8, some (.int c), x10, x11, x12, x13, x14, x15, x16], ?_, ?_⟩
          · walk_at "dx"
            refine ⟨rfl, R, c, rfl, by omega, ?_⟩
            walk_at "dx"
            rfl
          rintro ρ' rfl
          obtain ⟨oth, ho⟩ : ∃ o, pool[5]? = some o := ⟨_, List.getElem?_eq_getElem (by omega)⟩
          have ho5 : atI (pool.map D.str) (5 : Int) = some (.str oth) := L2.atI_nat (j := 5) (by rw [List.getElem?_map, ho]; rfl)
          refine ⟨fun ρ' => ∃ (one : Str) (far : Int), ρ' = [some .script, some (.spring (n + 1 + 1 + 1 + 1)), some (.lst true (pool.map .str)), some (rvD R c), x4, x5, some (.int (0 + (k : Int))), some (.lst false (R.map .str)), x8, some (.int c), some (.str one), some (.str oth), some (.int far), x13, x14, x15, x16] ∧ one ∈ R ∧ 1 ≤ far, ?_, ?_⟩
          · walk_at "dx"
            refine ⟨n + 1 + 1, false, R.map .str, rfl, by omega, hnn, by rw [List.length_map]; omega, fun x hx => by obtain ⟨z, _, rfl⟩ := List.mem_map.mp hx; rfl, fun x hx => ?_⟩
            obtain ⟨one, hx2, rfl⟩ := List.mem_map.mp hx
            walk_at "dx"
            rw [ho5]
            walk_at "dx"
            refine ⟨by decide, pow_ok (by decide) (by decide), by omega, fun r h1 h2 => ?_⟩
            walk_at "dx"
            have h19 : (10 : Int) ^ Int.toNat 19 = 10000000000000000000 := by decide
            rw [h19]
            refine ⟨⟨by decide, by decide, by decide⟩, ?_, one, _, rfl, hx2, by omega⟩
            rcases (by omega : r = 0 ∨ r = 1 ∨ r = 2) with z | z | z <;> subst z <;> (show _ < _) <;> decide +kernel
          rintro ρ' ⟨one, far, rfl, h1R, hfar⟩
          refine ⟨fun ρ' => ∃ (p : Nat), ρ' = [some .script, some (.spring (n + 1 + 1 + 1 + 1)), some (.lst true (pool.map .str)), some (rvD R c), some (.int (R.length : Nat)), x5, some (.int (0 + (k : Int))), some (.lst false (R.map .str)), x8, some (.int c), some (.str one), some (.str oth), some (.int far), some (.int (p : Nat)), x14, x15, x16] ∧ R[p]? = some one, ?_, ?_⟩
          · walk_at "dx"
            obtain ⟨j, j1, j2⟩ := idxOf2 (f := D.str) (fun a b => D.eqv_str a b) one R h1R
            rw [j1, onSome_some]
            walk_at "dx"
            rw [List.length_map]
            exact ⟨flat_strs _, j, rfl, j2⟩
          rintro ρ' ⟨p, rfl, hp⟩
          refine ⟨fun ρ' => ρ' = [some .script, some (.spring (n + 1 + 1 + 1 + 1)), some (.lst true (pool.map .str)), some (rvD R c), some (.int (R.length : Nat)), x5, some (.int (0 + (k : Int))), some (.lst false (R.map .str)), x8, some (.int c), some (.str one), some (.str oth), some (.int far), some (.int (p : Nat)), some (.lst true (([Mv.callI one ((p : Nat) + far), Mv.callI one (-1)] : List Mv).map mvT)), x15, x16], ?_, ?_⟩
          · walk_at "dx"
            first | rfl | exact ⟨by decide, rfl⟩ | done
          rintro ρ' rfl
          refine ⟨fun ρ' => ρ' = [some .script, some (.spring (n + 1 + 1 + 1 + 1)), some (.lst true (pool.map .str)), some (rvD R c), some (.int (R.length : Nat)), x5, some (.int (0 + (k : Int))), some (.lst false (R.map .str)), x8, some (.int c), some (.str one), some (.str oth), some (.int far), some (.int (p : Nat)), some (.lst true (([Mv.callI one ((p : Nat) + far), Mv.callI one (-1), Mv.callI one (-far), Mv.callN oth (some 0)] : List Mv).map mvT)), x15, x16], ?_, ?_⟩
          · walk_at "dx"
            first | rfl | exact ⟨by decide, rfl⟩ | done
          rintro ρ' rfl
          refine ⟨fun ρ' => ρ' = [some .script, some (.spring (n + 1 + 1 + 1 + 1)), some (.lst true (pool.map .str)), some (rvD R c), some (.int (R.length : Nat)), x5, some (.int (0 + (k : Int))), some (.lst false (R.map .str)), x8, some (.int c), some (.str one), some (.str oth), some (.int far), some (.int (p : Nat)), some (.lst true (([Mv.callI one ((p : Nat) + far), Mv.callI one (-1), Mv.callI one (-far), Mv.callN oth (some 0), Mv.callN oth none, Mv.callN oth (some (-far))] : List Mv).map mvT)), x15, x16], ?_, ?_⟩
          · walk_at "dx"
            first | rfl | exact ⟨by decide, rfl⟩ | done
          rintro ρ' rfl
          refine ⟨fun ρ' => ρ' = [some .script, some (.spring (n + 1 + 1 + 1 + 1)), some (.lst true (pool.map .str)), some (rvD R c), some (.int (R.length : Nat)), x5, some (.int (0 + (k : Int))), some (.lst false (R.map .str)), x8, some (.int c), some (.str one), some (.str oth), some (.int far), some (.int (p : Nat)), some (.lst true (([Mv.callI one ((p : Nat) + far), Mv.callI one (-1), Mv.callI one (-far), Mv.callN oth (some 0), Mv.callN oth none, Mv.callN oth (some (-far)), Mv.exch ((R.length : Nat) - 1), Mv.exch (-1)] : List Mv).map mvT)), x15, x16], ?_, ?_⟩
          · walk_at "dx"
            first | rfl | exact ⟨by decide, rfl⟩ | done
          rintro ρ' rfl
          refine ⟨fun ρ' => ρ' = [some .script, some (.spring (n + 1 + 1 + 1 + 1)), some (.lst true (pool.map .str)), some (rvD R c), some (.int (R.length : Nat)), x5, some (.int (0 + (k : Int))), some (.lst false (R.map .str)), x8, some (.int c), some (.str one), some (.str oth), some (.int far), some (.int (p : Nat)), some (.lst true (([Mv.callI one ((p : Nat) + far), Mv.callI one (-1), Mv.callI one (-far), Mv.callN oth (some 0), Mv.callN oth none, Mv.callN oth (some (-far)), Mv.exch ((R.length : Nat) - 1), Mv.exch (-1), Mv.exch ((R.length : Nat) + far), Mv.drop oth] : List Mv).map mvT)), x15, x16], ?_, ?_⟩
          · walk_at "dx"
            first | rfl | exact ⟨by decide, rfl⟩ | done
          rintro ρ' rfl
          refine ⟨fun ρ' => ρ' = [some .script, some (.spring (n + 1 + 1 + 1 + 1)), some (.lst true (pool.map .str)), some (rvD R c), some (.int (R.length : Nat)), x5, some (.int (0 + (k : Int))), some (.lst false (R.map .str)), x8, some (.int c), some (.str one), some (.str oth), some (.int far), some (.int (p : Nat)), some (.lst true (([Mv.callI one ((p : Nat) + far), Mv.callI one (-1), Mv.callI one (-far), Mv.callN oth (some 0), Mv.callN oth none, Mv.callN oth (some (-far)), Mv.exch ((R.length : Nat) - 1), Mv.exch (-1), Mv.exch ((R.length : Nat) + far), Mv.drop oth, Mv.putC one 0, Mv.putC one (-far)] : List Mv).map mvT)), x15, x16], ?_, ?_⟩
          · walk_at "dx"
            first | rfl | exact ⟨by decide, rfl⟩ | done
          rintro ρ' rfl
          refine ⟨fun ρ' => ρ' = [some .script, some (.spring (n + 1 + 1 + 1 + 1)), some (.lst true (pool.map .str)), some (rvD R c), some (.int (R.length : Nat)), x5, some (.int (0 + (k : Int))), some (.lst false (R.map .str)), x8, some (.int c), some (.str one), some (.str oth), some (.int far), some (.int (p : Nat)), some (.lst true (([Mv.callI one ((p : Nat) + far), Mv.callI one (-1), Mv.callI one (-far), Mv.callN oth (some 0), Mv.callN oth none, Mv.callN oth (some (-far)), Mv.exch ((R.length : Nat) - 1), Mv.exch (-1), Mv.exch ((R.length : Nat) + far), Mv.drop oth, Mv.putC one 0, Mv.putC one (-far), Mv.putI oth ((R.length : Nat) + far)] : List Mv).map mvT)), x15, x16], ?_, ?_⟩
          · walk_at "dx"
            first | rfl | exact ⟨by decide, rfl⟩ | done
          rintro ρ' rfl
          refine ⟨fun ρ' => ρ' = [some .script, some (.spring (n + 1 + 1 + 1 + 1)), some (.lst true (pool.map .str)), some (rvD R c), some (.int (R.length : Nat)), x5, some (.int (0 + (k : Int))), some (.lst false (R.map .str)), x8, some (.int c), some (.str one), some (.str oth), some (.int far), some (.int (p : Nat)), some (.lst true (([Mv.callI one ((p : Nat) + far), Mv.callI one (-1), Mv.callI one (-far), Mv.callN oth (some 0), Mv.callN oth none, Mv.callN oth (some (-far)), Mv.exch ((R.length : Nat) - 1), Mv.exch (-1), Mv.exch ((R.length : Nat) + far), Mv.drop oth, Mv.putC one 0, Mv.putC one (-far), Mv.putI oth ((R.length : Nat) + far), Mv.putI oth (-1)] : List Mv).map mvT)), x15, x16], ?_, ?_⟩
          · walk_at "dx"
            first | rfl | exact ⟨by decide, rfl⟩ | done
          rintro ρ' rfl
          obtain ⟨mvs, hmv, hml, hbad⟩ : ∃ mvs : List Mv, mvs = [Mv.callI one ((p : Nat) + far), Mv.callI one (-1), Mv.callI one (-far), Mv.callN oth (some 0), Mv.callN oth none, Mv.callN oth (some (-far)), Mv.exch ((R.length : Nat) - 1), Mv.exch (-1), Mv.exch ((R.length : Nat) + far), Mv.drop oth, Mv.putC one 0, Mv.putC one (-far), Mv.putI oth ((R.length : Nat) + far), Mv.putI oth (-1)] ∧ mvs.length = 14 ∧ ∀ mv ∈ mvs, mv.bad R := by
            refine ⟨_, rfl, rfl, fun mv hm => ?_⟩
            simp only [List.mem_cons, List.not_mem_nil, or_false] at hm
            rcases hm with rfl | rfl | rfl | rfl | rfl | rfl | rfl | rfl | rfl | rfl | rfl | rfl | rfl | rfl
            all_goals first | exact hot hg ho | exact ⟨p, hp, by omega⟩ | exact ⟨hot hg ho, by omega⟩ | exact h1R | (show _ ∨ _; omega)
          rw [← hmv]
          clear hmv
          walk_at "dx"
          refine ⟨_, _, rfl, by omega, by rw [List.length_map]; omega, fun x hx => ?_, fun m ys hm hperm => ?_⟩
          · obtain ⟨mv, _, rfl⟩ := List.mem_map.mp hx
            exact mvT_fz mv
          rw [List.length_map] at hm
          have hplR : plainD 6 (.lst false (R.map .str)) = true := by
            rw [plainD, List.all_map, List.length_map, decide_eq_true (by omega)]
            exact List.all_eq_true.mpr fun _ _ => rfl
          walk_at "dx"
          refine for_inv (fun j ρ' => ∃ (x15 x16 : Option D), ρ' = [some .script, some (.spring (m)), some (.lst true (pool.map .str)), some (rvD R c), some (.int (R.length : Nat)), x5, some (.int (0 + (k : Int))), some (.lst false (R.map .str)), x8, some (.int c), some (.str one), some (.str oth), some (.int far), some (.int (p : Nat)), some (.lst false (mvs.map mvT)), x15, x16]) ⟨_, _, rfl⟩ ?_ ?_
          · rintro j d ρ' hj ⟨x15, x16, rfl⟩
            obtain ⟨mv, hmv, rfl⟩ := List.mem_map.mp (hperm.mem_iff.mp (List.mem_of_getElem? hj))
            rw [show mvT mv = .tup [mv.d, .lst false mv.due] from rfl]
            have hdue : (D.lst true mv.due).mayFreeze = true ∧ (D.lst true mv.due).freeze = .lst false mv.due := by cases mv <;> exact ⟨rfl, rfl⟩
            have hdue2 : plainD 6 (.lst false mv.due) = true := by cases mv <;> rfl
            walk_at "dx"
            refine ⟨fun ρ' => ρ' = [some .script, some (.spring (m)), some (.lst true (pool.map .str)), some (rvD R c), some (.int (R.length : Nat)), x5, some (.int (0 + (k : Int))), some (.lst false (R.map .str)), x8, some (.int c), some (.str one), some (.str oth), some (.int far), some (.int (p : Nat)), some (.lst false (mvs.map mvT)), some mv.d, some (.lst false mv.due)], ?_, ?_⟩
            · walk_at "dx"
              simp only [D.may_fz _ (mv_fz mv), cond_true, D.freeze_fz _ (mv_fz mv)]
              refine ⟨R, c, mv, rfl, by omega, hg.1, hbad mv hmv, ?_⟩
              walk_at "dx"
              refine ⟨.lst false mv.due, rfl, hdue2, ?_⟩
              walk_at "dx"
              done
            rintro ρ' rfl
            walk_at "dx"
            refine ⟨rfl, R, c, rfl, by omega, ?_⟩
            walk_at "dx"
            refine ⟨.lst false (R.map .str), rfl, hplR, ?_⟩
            walk_at "dx"
            refine ⟨.int c, rfl, rfl, ?_⟩
            walk_at "dx"
            exact ⟨_, _, rfl⟩
          · rintro ρ' ⟨x15, x16, rfl⟩
            refine ⟨m, R, c, _, _, _, _, _, _, _, _, _, _, _, _, _, rfl, by omega, hg⟩
        · rintro ρ' ⟨n, R, c, x4, x5, x6, x7, x8, x9, x10, x11, x12, x13, x14, x15, x16, rfl, hn, hg⟩
          exact ⟨n, R, c, x4, x5, x6, x7, x8, x9, x10, x11, x12, x13, x14, x15, x16, rfl⟩
      rintro ρ' ⟨n, R, c, x4, x5, x6, x7, x8, x9, x10, x11, x12, x13, x14, x15, x16, rfl⟩
      walk_at "dx"
      exact h
    · exact h.elim
end
end Lw
open PySem PySem.W PySem.Calls PyProof.Rows
set_option maxHeartbeats 0 in
theorem PySem.Challenge.cw_pairahead_k53_rivals_refused_holds : PySem.Challenge.rw_pairahead_k53_rivals_refused.Holds := by
  w_on; o_law
  refine HandSHeadRun.head_any (r := OpenLaw.row PySem.Challenge.rw_pairahead_k53_rivals_refused) (q := view (OpenLaw.row PySem.Challenge.rw_pairahead_k53_rivals_refused).prog [16]) (H := Lw.hk) (ob := Lw.ob) (M := 3000) (loose := Lw.loose) (d := HandSHeadRun.topDef (OpenLaw.row PySem.Challenge.rw_pairahead_k53_rivals_refused).prog 16) (kwd := []) Lw.ob_eq
    (by kernel_rfl) (fun s => by kernel_rfl) Lw.run (by kernel_rfl) (by kernel_rfl) (by kernel_rfl) (by rfl) (by first | assumption | decide +kernel) (by decide +kernel) ⟨rfl, rfl, rfl, rfl, rfl, by decide +kernel⟩ ?hw ?hc
  case hw => w_witness2
  case hc =>
    refine L2.walk_ofE (l := PySem.Challenge.rw_pairahead_k53_rivals_refused) (n := 63) (k := 10) (x := "_law_script") (CX := L2.CX0) rfl (by decide) (by kernel_rfl) ⟨rfl, by decide, by decide⟩ ?F (fun _ _ _ _ z => z)
    intro w mg fa h Y G hmg0
    obtain ⟨K, KX, c⟩ := Y
    have hmg : mg ("law" : PySem.Str) = some (.ref fa) := by
      have e : (HandSHeadRun.topDef (OpenLaw.row PySem.Challenge.rw_pairahead_k53_rivals_refused).prog 16).name = ("law" : PySem.Str) := by kernel_rfl
      rw [← e]
      exact hmg0
    have T := Lw.tx_of (P := PySem.Challenge.pw_pairahead_k53_rivals_refused) ⟨by kernel_rfl, by kernel_rfl⟩ KX G c
    have e := hmg.symm.trans T.g_law
    cases e
    obtain ⟨fd, F⟩ := T.d_law
    have b := L2.FunD.bindsA (ps := ["_law_script"]) F fun _ _ _ _ _ _ us hl => match us, hl with | [_], _ => rfl
    exact ⟨K, fd, Lw.spLaw K, KX, fun s v => b s [v] rfl, fun H a ns hl _ hS => ⟨a, ns, rfl, hS, hl, fun _ => rfl⟩, fun base _ _ => Lw.ok_law T F⟩
