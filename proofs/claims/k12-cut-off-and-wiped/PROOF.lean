import PyProof.Rows.All
import Wide.All
import OpenK.AllK
import Wide.FinOn
import KE.KStateDown
import HandS.ForMost
import HandS.ForExc
import HandS.ExcIs
import HandS.IsInst
import HandS.Codes
import HandS.Conv
import HandS.More
import HandS.SortInts
import HandS.Strs
import HandS.SetKeys
import HandS.Flow
import HandS.NoneIn
import HandS.Defaults
import HandS.CallSlots
import HandS.Deep
import HandS.Wide
import HandS.WideBits
import HandS.Head0
import HandS.Head1
import HandS.Head2
import HandS.HeadEnd
import HandS.HeadHook1
import HandS.HeadHook2
import HandS.HeadHook3
import HandS.HeadHook4
import KE.KSortedM
import PySem.Challenge.RW_forgethall_k12_whole_cut_off_and_wiped
set_option Elab.async false
set_option linter.all false
set_option maxRecDepth 100000
set_option maxHeartbeats 4000000
/-! Own rules over the hand layer: calls by packages, fields by a known class, raising, isinstance in an except suite. -/
namespace U
open PySem PySem.Spec PyProof.Rows L2

/-! ### packages: a def, a method, a class that may be called -/
structure Cal (P : Program) (w : World) (K : PySem.W.Frag) (mg : Str → Option Value) (base : Heap) (CX : CXT) (k : Nat) (x : Str) (sp : Sp) (dvs : List V) : Prop where
  ex : ∃ (f : Addr) (fd : FuncData) (ps : List Str) (ds : List Value), FnOk P w K mg base CX k f fd ps sp ∧ mg x = some (.ref f) ∧ PySem.W.keepIn K (.ref f) = true ∧ Binds K fd ps ds ∧ Vals dvs ds
structure Met (P : Program) (w : World) (K : PySem.W.Frag) (mg : Str → Option Value) (base : Heap) (CX : CXT) (k : Nat) (C : Addr) (m : Str) (sp : Sp) (dvs : List V) : Prop where
  ex : ∃ (f : Addr) (fd : FuncData) (ps : List Str) (ds : List Value), Cls K C ∧ Meth K C m f ∧ FnOk P w K mg base CX k f fd ps sp ∧ Binds K fd ps ds ∧ Vals dvs ds
structure Mak (P : Program) (w : World) (K : PySem.W.Frag) (mg : Str → Option Value) (base : Heap) (CX : CXT) (k : Nat) (x : Str) (C : Addr) (sp : Sp) (dvs : List V) : Prop where
  ex : ∃ (f : Addr) (fd : FuncData) (ps : List Str) (ds : List Value), Mk K C f ∧ FnOk P w K mg base CX k f fd ps sp ∧ mg x = some (.ref C) ∧ Binds K fd ps ds ∧ Vals dvs ds

abbrev tCl : Sp → List V → (L2.St → XK) → TA → TE := L2.tCallSD
def tMt (C : Addr) (m : Str) (sp : Sp) (dvs : List V) (E : L2.St → XK) (ta : TE) (t : TA) : TE := fun σ H Q => ta σ H fun x H1 => ∃ a dx fs, x = .ref a ∧ H1 a = some (.ins C dx fs) ∧ fs.lookup m = none ∧
  t σ H1 fun vs H2 => sp (x :: (vs ++ dvs)) H2 Q (E σ)
def tMk (C : Addr) (sp : Sp) (dvs : List V) (E : L2.St → XK) (t : TA) : TE := fun σ H Q => t σ H fun vs H1 => ∀ x dx, H1 x = none → H1 dx = none → dx ≠ x →
  sp (.ref x :: (vs ++ dvs)) (upd (upd H1 dx (.own x)) x (.ins C dx [])) (fun v H2 => v = .non ∧ Q (.ref x) H2) (E σ)

abbrev ES0 : L2.St → XK := fun _ _ _ _ => False
theorem ps0 {X : Cx} {E : L2.St → XK} : ∀ σ, PassesAt CX0 X σ (E σ) := fun _ _ _ _ _ _ _ h => h.elim

section
variable {X : Cx} {CX : CXT} {k j : Nat} {f C : Addr} {fd : FuncData} {ps : List Str} {sp : Sp} {dvs : List V} {ds : List Value} {E : L2.St → XK} {x m : Str} {p pos apos : Pos} {e o : Expr} {es : List Expr} {ta : TE} {t : TA}
theorem pe_c (c : Cal X.prog X.w X.K X.mg X.base CX k x sp dvs) (hr : Room j X.A) (hk : k ≤ j) (hx : ∀ σ, PassesAt CX X σ (E σ)) (hg : Gl X x) (ha : PA X (e :: es) t)
    (hdb : (x == ("__debug__" : Str)) = false := by decide) (he : starEach (e :: es) X.env = (false, eval e X.env) :: starEach es X.env := by rfl) (hpl : (backTo pos (starEach es X.env)).any (·.1) = false := by rfl) :
    PE X (.Call (.Name x p) (e :: es) [] pos) (tCl sp dvs E t) := by
  obtain ⟨f, fd, ps, ds, F, hm, kp, b, d⟩ := c.ex
  exact L2.pe_callSD F (hr.mono hk) hg hm kp b d hx ha hdb he hpl
theorem pe_c0 (c : Cal X.prog X.w X.K X.mg X.base CX k x sp dvs) (hr : Room j X.A) (hk : k ≤ j) (hx : ∀ σ, PassesAt CX X σ (E σ)) (hg : Gl X x)
    (hdb : (x == ("__debug__" : Str)) = false := by decide) : PE X (.Call (.Name x p) [] [] pos) (tCl sp dvs E tNil) := by
  obtain ⟨f, fd, ps, ds, F, hm, kp, b, d⟩ := c.ex
  refine ⟨fun pins s σ H Q I h => ?_⟩
  refine wpAny_Call_Name_kw (ld_glob I hg hm ?_ hdb)
  exact PySem.W.callWith_K0 I.kIn kp (L2.run_fnSD (us := []) F (hr.mono hk) b d (hx σ) I .nil h)
theorem pe_mt {pl : Sem Bool} (c : Met X.prog X.w X.K X.mg X.base CX k C m sp dvs) (hr : Room j X.A) (hk : k ≤ j) (hx : ∀ σ, PassesAt CX X σ (E σ)) (he : PE X o ta) (ha : PA X (e :: es) t)
    (hst : starEach (e :: es) X.env = (false, eval e X.env) :: starEach es X.env := by rfl) (hpl : (backTo pos (starEach es X.env)).any (·.1) = false := by rfl)
    (ht : eval (.Call (.Attribute o m apos) (e :: es) [] pos) X.env = (do
      let ov ← eval o X.env
      standAt apos.atName
      let (f, first) ← holding [ov] (getMethod ov m pl)
      callWith pos f first (backTo pos (starEach (e :: es) X.env)) (backToKw pos (keywordEach [] X.env))) := by rfl) :
    PE X (.Call (.Attribute o m apos) (e :: es) [] pos) (tMt C m sp dvs E ta t) := by
  obtain ⟨f, fd, ps, ds, hc, hm, F, b, d⟩ := c.ex
  refine ⟨fun pins s σ H Q I h => ?_⟩
  refine PySem.W.methodCall_KW (pl := pl) (thn (he.run pins s σ H _ I h) fun u s1 ⟨x, H1, I1, rx, a, dx, fs, ex, ea, l, q⟩ => ?_) ht
  subst ex
  obtain rfl : u = Value.ref a := rx
  refine getmeth_ok I1 ea hc hm l ?_
  refine PySem.W.callWith_K (first := [.ref a]) (h₀ := X.base) I.ok.mod.kin hm.kp (thn (ha.run pos pins s1 σ H1 _ I1 q) fun us s2 ⟨vs, H2, I2, r, q2⟩ => ⟨I2.kIn, ?_⟩) hst hpl
  exact L2.run_fnSD (us := .ref a :: us) (vs := .ref a :: vs) F (hr.mono hk) b d (hx σ) I2 (.cons rfl r) q2
theorem pe_mt0 {pl : Sem Bool} (c : Met X.prog X.w X.K X.mg X.base CX k C m sp dvs) (hr : Room j X.A) (hk : k ≤ j) (hx : ∀ σ, PassesAt CX X σ (E σ)) (he : PE X o ta)
    (ht : eval (.Call (.Attribute o m apos) [] [] pos) X.env = (do
      let ov ← eval o X.env
      standAt apos.atName
      let (f, first) ← holding [ov] (getMethod ov m pl)
      callWith pos f first (backTo pos (starEach [] X.env)) (backToKw pos (keywordEach [] X.env))) := by rfl) :
    PE X (.Call (.Attribute o m apos) [] [] pos) (tMt C m sp dvs E ta tNil) := by
  obtain ⟨f, fd, ps, ds, hc, hm, F, b, d⟩ := c.ex
  refine ⟨fun pins s σ H Q I h => ?_⟩
  refine PySem.W.methodCall_KW (pl := pl) (thn (he.run pins s σ H _ I h) fun u s1 ⟨x, H1, I1, rx, a, dx, fs, ex, ea, l, q⟩ => ?_) ht
  subst ex
  obtain rfl : u = Value.ref a := rx
  refine getmeth_ok I1 ea hc hm l ?_
  exact PySem.W.callWith_K0 (first := [.ref a]) I1.kIn hm.kp (L2.run_fnSD (us := [.ref a]) (vs := [.ref a]) F (hr.mono hk) b d (hx σ) I1 (.cons rfl .nil) q)
theorem run_mk {pins : List (Addr × Obj)} {σ : L2.St} {H : Hp} {s : Shared} {Q : VK} {us : List Value} {vs : List V} (M : Mk X.K C f) (F : FnOk X.prog X.w X.K X.mg X.base CX k f fd ps sp) (hr : Room (k + 1) X.A) (hb : Binds X.K fd ps ds) (hd : Vals dvs ds)
    (hx : PassesAt CX X σ (E σ)) (I : Inv X pins σ H s) (r : Vals vs us)
    (h : ∀ x dx, H x = none → H dx = none → dx ≠ x → sp (.ref x :: (vs ++ dvs)) (upd (upd H dx (.own x)) x (.ins C dx [])) (fun v H2 => v = .non ∧ Q (.ref x) H2) (E σ)) :
    wpAny (model X.prog X.w) X.A (call (.ref C) us) (EP X pins σ Q) X.xe s := by
  have hq := h (s.heap.objs.size + 1) s.heap.objs.size (I.hok.fresh (Nat.le_succ _)) (I.hok.fresh (Nat.le_refl _)) (Nat.ne_of_lt (Nat.lt_succ_self _))
  have I2 := Inv.made (C := C) I
  have r2 : Vals (V.ref (s.heap.objs.size + 1) :: (vs ++ dvs)) (Value.ref (s.heap.objs.size + 1) :: (us ++ ds)) := .cons rfl (r.append hd)
  have hl : (Value.ref (s.heap.objs.size + 1) :: us ++ ds).length = ps.length := by
    have e := r2.length
    rw [F.len _ _ _ _ hq] at e
    exact e.symm
  refine wpAny_call (make_map (f := f) I.kIn M.makes M.init (beq_iff_eq.mp M.fn) (codeAny_mono (F.run _ X.stack _ _ ⟨Value.ref (s.heap.objs.size + 1) :: us, []⟩ (Value.ref (s.heap.objs.size + 1) :: (us ++ ds)) _ _ (E σ) (hr.make C us [])
    (I2.env0.make C us []) (hb _ (Value.ref (s.heap.objs.size + 1) :: us) I2.kIn hl) r2 hq) fun r s' hq' => ?_))
  cases r with
  | error e => exact hx pins _ _ e s' I2 hq'
  | ok fl =>
    cases fl with
    | ret u =>
      obtain ⟨v, H', I3, rv, ev, q3⟩ := I2.after hq'
      subst ev
      exact ⟨rv, ⟨V.ref (s.heap.objs.size + 1), H', I3, rfl, q3⟩⟩
    | next => exact False.elim hq'
    | brk => exact False.elim hq'
    | cont => exact False.elim hq'
theorem pe_mk (c : Mak X.prog X.w X.K X.mg X.base CX k x C sp dvs) (hr : Room j X.A) (hk : k + 1 ≤ j) (hx : ∀ σ, PassesAt CX X σ (E σ)) (hg : Gl X x) (ha : PA X (e :: es) t)
    (hdb : (x == ("__debug__" : Str)) = false := by decide) (he : starEach (e :: es) X.env = (false, eval e X.env) :: starEach es X.env := by rfl) (hpl : (backTo pos (starEach es X.env)).any (·.1) = false := by rfl) :
    PE X (.Call (.Name x p) (e :: es) [] pos) (tMk C sp dvs E t) := by
  obtain ⟨f, fd, ps, ds, M, F, hm, b, d⟩ := c.ex
  refine ⟨fun pins s σ H Q I h => ?_⟩
  refine wpAny_Call_Name_kw (ld_glob I hg hm ?_ hdb)
  refine PySem.W.callWith_K (h₀ := X.base) I.ok.mod.kin M.kp (thn (ha.run pos pins s σ H _ I h) fun us s1 ⟨vs, H1, I1, r, q⟩ => ⟨I1.kIn, ?_⟩) he hpl
  exact run_mk M F (hr.mono hk) b d (hx σ) I1 r q
theorem pe_mk0 (c : Mak X.prog X.w X.K X.mg X.base CX k x C sp dvs) (hr : Room j X.A) (hk : k + 1 ≤ j) (hx : ∀ σ, PassesAt CX X σ (E σ)) (hg : Gl X x)
    (hdb : (x == ("__debug__" : Str)) = false := by decide) : PE X (.Call (.Name x p) [] [] pos) (tMk C sp dvs E tNil) := by
  obtain ⟨f, fd, ps, ds, M, F, hm, b, d⟩ := c.ex
  refine ⟨fun pins s σ H Q I h => ?_⟩
  refine wpAny_Call_Name_kw (ld_glob I hg hm ?_ hdb)
  exact PySem.W.callWith_K0 I.kIn M.kp (run_mk (us := []) M F (hr.mono hk) b d (hx σ) I .nil h)
end

/-! ### a field of an instance of a known class -/
def tFd (C : Addr) (ta : TE) (f : Str) : TE := fun σ H Q => ta σ H fun x H1 => ∃ a dx fs v, x = .ref a ∧ H1 a = some (.ins C dx fs) ∧ fs.lookup f = some v ∧ Q v H1
def sFd (C : Addr) (ta tv : TE) (f : Str) : TS := fun D σ H => tv σ H fun y H1 => ta σ H1 fun x H2 => ∃ a dx fs, x = .ref a ∧ H2 a = some (.ins C dx fs) ∧ fs.length < 1000 ∧ D.nx σ (upd H2 a (.ins C dx (putF f y fs)))
/-- e.f += value, whole numbers -/
def sFdAdd (C : Addr) (ta tv : TE) (f : Str) : TS := fun D σ H => ta σ H fun x H1 => ∃ a dx fs i, x = .ref a ∧ H1 a = some (.ins C dx fs) ∧ fs.lookup f = some (.int i) ∧
  tv σ H1 fun y H2 => ∃ j dx' fs', y = .int j ∧ H2 a = some (.ins C dx' fs') ∧ fs'.length < 1000 ∧ D.nx σ (upd H2 a (.ins C dx' (putF f (.int (i + j)) fs')))
section
variable {X : Cx} {o e value : Expr} {f : Str} {pos pos' tpos : Pos} {ta tv : TE} {C : Addr}
theorem pe_fd (c : Cls X.K C) (n : NoAttr X.K C f) (he : PE X e ta) (hb : attributeBase e f X.env (eval e X.env) = eval e X.env := by rfl) : PE X (.Attribute e f pos) (tFd C ta f) := by
  refine ⟨fun pins s σ H Q I h => ?_⟩
  refine attr_of hb (thn (he.run pins s σ H _ I h) fun u s1 ⟨x, H1, I1, rx, a, dx, fs, v, ex, ea, l, q⟩ => ?_)
  subst ex
  obtain rfl : u = Value.ref a := rx
  exact getattr_ok I1 ea c n l fun u' s2 I2 ru => ⟨v, H1, I2, ru, q⟩
theorem ps_fd (c : Cls X.K C) (n : NoAttr X.K C f) (ha : PE X o ta) (hv : PE X value tv) (hs : swapsWith value (some (.Attribute o f pos')) pos.line X.env = pure false := by rfl) : PS X (.Assign [.Attribute o f pos'] value pos) (sFd C ta tv f) := by
  refine ⟨fun pins s σ H D I h => ?_⟩
  refine plainObj_wpAny_Assign_Attribute (thn (hv.run pins s σ H _ I h) fun u s1 ⟨y, H1, I1, ry, q⟩ => thn (ha.run pins s1 σ H1 _ I1 q) fun ov s2 ⟨x, H2, I2, rx, a, dx, fs, ex, ea, l, q2⟩ => ?_) hs
  subst ex
  obtain rfl : ov = Value.ref a := rx
  exact setattr_ok I2 ea c n l ry fun s3 I3 => ⟨σ, _, I3, q2⟩
theorem ps_fdadd (c : Cls X.K C) (n : NoAttr X.K C f) (ha : PE X o ta) (hv : PE X value tv) : PS X (.AugAssign (.Attribute o f tpos) .Add value pos) (sFdAdd C ta tv f) := by
  refine ⟨fun pins s σ H D I h => ?_⟩
  refine wpAny_AugAssign_AttributeAny (thn (ha.run pins s σ H _ I h) fun ov s1 ⟨x, H1, I1, rx, a, dx, fs, i, ex, ea, l, q⟩ => ?_)
  subst ex
  obtain rfl : ov = Value.ref a := rx
  refine getattr_ok I1 ea c n l fun u s2 I2 ru => thn (hv.run pins s2 σ H1 _ I2 q) fun w3 s3 ⟨y, H2, I3, ry, j, dx', fs', ey, ea', l', q3⟩ => ?_
  subst ey
  refine thn (in_add (X := X) pins s3 σ H2 (.int i) (.int j) u w3 (fun z H3 => z = .int (i + j) ∧ H3 = H2) I3 ru ry ⟨i, j, rfl, rfl, rfl, rfl⟩) fun w4 s4 ⟨z, H3, I4, rz, ez, eH⟩ => ?_
  subst ez
  subst eH
  exact setattr_ok I4 ea' c n l' rz fun s5 I5 => ⟨σ, _, I5, q3⟩
end

/-! ### constants of the module -/
section
variable {X : Cx} {x : Str} {pos : Pos}
theorem pe_gi {i : Int} (hg : Gl X x) (h : ∃ t, X.mg x = some (.int i t)) (hd : (x == ("__debug__" : Str)) = false := by decide) : PE X (.Name x pos) (tC (.int i)) := by
  obtain ⟨t, h⟩ := h
  exact pe_glob hg h ⟨t, rfl⟩ hd
theorem pe_gs {z : Str} (hg : Gl X x) (h : ∃ t, X.mg x = some (.str z t)) (hd : (x == ("__debug__" : Str)) = false := by decide) : PE X (.Name x pos) (tC (.str z)) := by
  obtain ⟨t, h⟩ := h
  exact pe_glob hg h ⟨t, rfl⟩ hd
theorem pe_gr {a : Addr} (hg : Gl X x) (h : X.mg x = some (.ref a)) (hd : (x == ("__debug__" : Str)) = false := by decide) : PE X (.Name x pos) (tC (.ref a)) := pe_glob hg h rfl hd
theorem pe_ty {T : String} (hg : Gl X x) (hm : X.mg x = none) (hv : bootBuiltins x = some (.type T)) (hn : x ≠ "__name__" := by decide) (hd : (x == ("__debug__" : Str)) = false := by decide) : PE X (.Name x pos) (tC (.ty T)) := pe_bltn hg hm hv rfl hn hd
end

/-! ### raising: own classes over HallError, made with a text -/
/-- what the written part says of an error class -/
structure ErrC (K : PySem.W.Frag) (C : Addr) : Prop where
  x : PySem.W.excIn K C He.veBase "ValueError.__new__" = true
  k : PySem.W.keepIn K (.ref C) = true
  b : PySem.W.subIn K (.ref C) (.type "BaseException") = some true
  t : PySem.W.typeIn K (.ref C) = some (.type "type")
def tRs (C : Addr) (W : WX) : TS := fun _ σ H => W (.ref C) none σ H
theorem ps_rs {X : Cx} {C : Addr} {W : WX} {x m : Str} {j : Nat} {p p2 pos pos2 : Pos} (hc : X.calm = true) (tk : Takes X W) (T : ErrC X.K C) (gC : X.mg x = some (.ref C)) (hg : Gl X x) (hdb : (x == ("__debug__" : Str)) = false := by decide) :
    PS X (.Raise (some (.Call (.Name x p) [.Constant (.str m) j p2] [] pos)) none pos2) (tRs C W) :=
  ps_raise hc tk (pmk_own PySem.F.excBase_ValueError T.x gC T.k (raises_own T.b T.t) hg hdb)

/-! ### isinstance of a caught error -/
def rIsX (K : PySem.W.Frag) (a : Addr) (cls : Value) (d : Option Addr) : List V → Hp → VK → Prop := fun xs H Q => ∃ (D : Addr) (c : V) (cv : Value) (b : Bool), cls = .ref D ∧ d = none ∧ ExcC K D ∧ xs = [.ref a, c] ∧ ClsV c cv ∧ PySem.W.kitOne K (.ref D) cv = some b ∧ Q (.bl b) H
def rIsXT (K : PySem.W.Frag) (a : Addr) (cls : Value) (d : Option Addr) : List V → Hp → VK → Prop := fun xs H Q => ∃ (D tp : Addr) (cs : List V) (us : List Value) (b : Bool), cls = .ref D ∧ d = none ∧ ExcC K D ∧ xs = [.ref a, .ref tp] ∧ H tp = some (.tup cs) ∧ Paired ClsV cs us ∧ PySem.W.kitAny K (.ref D) us = some b ∧ Q (.bl b) H
section
variable {X : Cx} {a : Addr} {oe : Obj} {cls : Value} {d : Option Addr} {pn : List (Addr × Obj)}
theorem inst_exc {pins : List (Addr × Obj)} {s : Shared} {σ : L2.St} {H : Hp} {D : Addr} (hz : Zc (.ref D) none oe) (hf : ∃ vs, oe.data = .fields vs) (I : Inv (X.suite a ((a, oe) :: pn)) pins σ H s) : PySem.W.InstAt s.heap a oe D none := by
  obtain ⟨hget, _⟩ := I.pin (a, oe) (List.mem_append.mpr (.inl List.mem_cons_self))
  obtain ⟨vs, hv⟩ := hf
  obtain ⟨oc, od, oda, osl⟩ := oe
  obtain ⟨h1, h2⟩ := hz
  dsimp only at h1 h2 hv
  subst h1 h2 hv
  exact ⟨hget, rfl, rfl, trivial⟩
theorem call_isX (hz : Zc cls d oe) (hf : ∃ vs, oe.data = .fields vs) : CallR (X.suite a ((a, oe) :: pn)) (.builtin "isinstance") (rIsX X.K a cls d) := by
  intro pins s σ H xs us Q I r h
  obtain ⟨D, c, cv, b, rfl, rfl, C, rfl, hcv, e, q⟩ := h
  obtain ⟨u1, u2, rfl, r1, r2⟩ := vals2 r
  have e2 := hcv.eq r2
  subst e2
  cases (show u1 = Value.ref a from r1)
  exact PySem.W.kia_one (PySem.W.handS_kitx_exc C.hg C.hk C.hs C.hd C.ha C.hn C.ht C.hm) I.kIn (inst_exc hz hf I) e (fun z => nomatch z) fun tk => ⟨.bl b, H, I.kept (t' := tk) fun _ _ z => z, rfl, q⟩
theorem call_isXT (hz : Zc cls d oe) (hf : ∃ vs, oe.data = .fields vs) : CallR (X.suite a ((a, oe) :: pn)) (.builtin "isinstance") (rIsXT X.K a cls d) := by
  intro pins s σ H xs us Q I r h
  obtain ⟨D, tp, cs, ws, b, rfl, rfl, C, rfl, hT, k, e, q⟩ := h
  obtain ⟨u1, u2, rfl, r1, r2⟩ := vals2 r
  cases (show u2 = Value.ref tp from r2)
  cases (show u1 = Value.ref a from r1)
  obtain ⟨_, its, rv, o, h1, h2, n, h3⟩ := (show ObjOk X.prog X.w H s.heap tp (.tup cs) from I.hok tp _ hT)
  have e3 := ClsV.all k rv
  subst e3
  obtain ⟨oc, od, dt, sl⟩ := o
  simp only at h2 h3
  subst h2 h3
  exact PySem.W.kia_tup (PySem.W.handS_kitx_exc C.hg C.hk C.hs C.hd C.ha C.hn C.ht C.hm) I.kIn (inst_exc hz hf I) h1 e (fun z => nomatch z) fun tk => ⟨.bl b, H, I.kept (t' := tk) fun _ _ z => z, rfl, q⟩
end
end U

set_option Elab.async false
set_option linter.all false
set_option maxRecDepth 100000
set_option maxHeartbeats 4000000
/-! Names for the readings, so that readings can be printed by a program. -/
namespace U
open PySem PySem.Spec PyProof.Rows L2
abbrev rAddI : R2 := rI0 fun i j => .int (i + j)
abbrev rSubI : R2 := rI0 fun i j => .int (i - j)
abbrev rMulI : R2 := rI CMul fun i j => .int (i * j)
abbrev rFdivI : R2 := rI CDivW fun i j => .int (i / j)
abbrev rModI : R2 := rI (fun _ j => 0 < j) fun i j => .int (i % j)
abbrev rPowI : R2 := rI CPow fun i j => .int (i ^ j.toNat)
abbrev rLtI : R2 := rI0 fun i j => .bl (decide (i < j))
abbrev rLeI : R2 := rI0 fun i j => .bl (decide (i ≤ j))
abbrev rGtI : R2 := rI0 fun i j => .bl (decide (j < i))
abbrev rGeI : R2 := rI0 fun i j => .bl (decide (j ≤ i))
abbrev rIsNn : R2 := fun x y H Q => y = .non ∧ Q (.bl (decide (x = .non))) H
abbrev rNotNn : R2 := fun x y H Q => y = .non ∧ Q (.bl (!decide (x = .non))) H
abbrev rAddS : R2 := fun x y H Q => ∃ i j, x = .str i ∧ y = .str j ∧ i.length + j.length ≤ sizeLine ∧ Q (.str (i ++ j)) H
abbrev rInSg : R2 := fun x y H Q => ∃ (c : Nat) (z : Str), x = .str ⟨#[c]⟩ ∧ y = .str z ∧ Q (.bl (decide (c ∈ z.cps.toList))) H
abbrev rNiSg : R2 := fun x y H Q => ∃ (c : Nat) (z : Str), x = .str ⟨#[c]⟩ ∧ y = .str z ∧ Q (.bl (!decide (c ∈ z.cps.toList))) H
abbrev RC := List V → Hp → VK → Prop
abbrev RM := V → List V → Hp → VK → Prop
abbrev rAbs : RC := fun xs H Q => ∃ i, xs = [.int i] ∧ Q (.int (if i < 0 then -i else i)) H
abbrev rMax2 : RC := fun xs H Q => ∃ i j, xs = [.int i, .int j] ∧ Q (.int (if j > i then j else i)) H
abbrev rMin2 : RC := fun xs H Q => ∃ i j, xs = [.int i, .int j] ∧ Q (.int (if j < i then j else i)) H
abbrev rDivmod : RC := fun xs H Q => ∃ i j, xs = [.int i, .int j] ∧ CDivP i j ∧ ∀ p, H p = none → Q (.ref p) (upd H p (.tup [.int (i / j), .int (i % j)]))
theorem two200 : (2 : Nat) ^ 200 = 1606938044258990275541962092341162602522202993782792835301376 := by decide
theorem cdw {i j : Int} (h0 : 0 < j) (h1 : j ≤ 1000000000000000000000000000000000000000000000000000000000000) : CDivW i j := by
  refine wide_div (b := 200) h0 ?_ (by decide) (by decide)
  rw [two200]
  omega
theorem cdp {i j : Int} (h0 : 0 < j) (h1 : j ≤ 1000000000000000000000000000000000000000000000000000000000000) : CDivP i j := ⟨h0, PyProof.noPylong_of_log2 (cdw (i := i) h0 h1).2⟩
abbrev rLenSeq (K : PySem.W.Frag) : RC := fun xs H Q => ∃ p ys, xs = [.ref p] ∧ (SqL K H p ys ∨ SqT K H p ys) ∧ Q (.int ys.length) H
abbrev rLenStr : RC := fun xs H Q => ∃ z, xs = [.str z] ∧ z.length ≤ sizeLine ∧ Q (.int z.length) H
abbrev rLenDc : RC := fun xs H Q => ∃ a kvs, xs = [V.ref a] ∧ H a = some (.dK kvs) ∧ Q (.int kvs.length) H
abbrev rListOf (K : PySem.W.Frag) : RC := fun xs H Q => ∃ p ys, xs = [.ref p] ∧ (SqL K H p ys ∨ SqT K H p ys) ∧ ∀ l, H l = none → Q (.ref l) (upd H l (.lst ys))
abbrev rTupleOf (K : PySem.W.Frag) : RC := fun xs H Q => ∃ p ys, xs = [.ref p] ∧ ((SqL K H p ys ∧ ∀ l, H l = none → Q (.ref l) (upd H l (.tup ys))) ∨ (SqT K H p ys ∧ Q (.ref p) H))
abbrev rStrInt : RC := fun xs H Q => ∃ i, xs = [.int i] ∧ i.natAbs.log2 < 1920 ∧ Q (.str (toString i)) H
abbrev rInt1 : RC := fun xs H Q => (∃ i, xs = [.int i] ∧ Q (.int i) H) ∨ ∃ k, xs = [.bl k] ∧ Q (.int (if k then 1 else 0)) H
abbrev rIntStr : RC := fun xs H Q => ∃ a n, xs = [.str a] ∧ PySem.intText? a = some n ∧ a.length ≤ 640 ∧ Q (.int n) H
abbrev mJoin (K : PySem.W.Frag) : RM := fun x xs H Q => ∃ a p, ∃ ys : List Str, x = .str a ∧ xs = [.ref p] ∧ (SqL K H p (ys.map V.str) ∨ SqT K H p (ys.map V.str)) ∧
  (ys.map (·.length)).sum + ys.length * a.length ≤ 16777216 ∧ Q (.str (Txt.join a ys)) H
abbrev mPartition : RM := fun x xs H Q => ∃ a b, x = .str a ∧ xs = [.str b] ∧ (b.length == 0) = false ∧ a.length ≤ sizeLine ∧
  ∀ p, H p = none → Q (.ref p) (upd H p (.tup [.str (Txt.partition a b).1, .str (Txt.partition a b).2.1, .str (Txt.partition a b).2.2]))
abbrev mSplit : RM := fun x xs H Q => ∃ a b, x = .str a ∧ xs = [.str b] ∧ (b.length == 0) = false ∧ a.length + 2 ≤ sizeLine ∧ rNewStrs (Txt.split a b) H Q
abbrev mStarts : RM := fun x xs H Q => ∃ a b, x = .str a ∧ xs = [.str b] ∧ Q (.bl (Txt.startswith a b)) H
abbrev mEnds : RM := fun x xs H Q => ∃ a b, x = .str a ∧ xs = [.str b] ∧ Q (.bl (Txt.endswith a b)) H
abbrev rMulS : R2 := fun x y H Q => ∃ a n, x = .str a ∧ y = .int n ∧ MulOk a n ∧ Q (.str (Txt.mul a n)) H
theorem op_mulS {X : Cx} : OpR X (binaryOp .Mult) rMulS := by
  intro pins s σ H x y v u Q I rx ry h
  obtain ⟨a, n, rfl, rfl, ok, q⟩ := h
  obtain ⟨t, rfl⟩ := rx
  obtain ⟨t', rfl⟩ := ry
  exact SB.mul ok fun t2 k => ⟨.str _, H, I.tok k, ⟨t2, rfl⟩, q⟩

/-! ### d.keys() as a value; sorted(d.keys()) -/
def KeysO (p d : Addr) : HO := .ext fun h => PySem.W.KdlKeysView h p d
def tKeysV (td : TE) : TE := fun σ H Q => td σ H fun x H1 => ∃ d kvs, x = .ref d ∧ Rd H1 d (.dK kvs) ∧ ∀ p, H1 p = none → Q (.ref p) (upd H1 p (KeysO p d))
theorem pe_keysV {X : Cx} {e : Expr} {td : TE} {apos cpos : Pos} (he : PE X e td) (hbase : attributeBase e "keys" X.env (eval e X.env) = eval e X.env := by rfl) (hline : (apos.endLine == cpos.line) = true := by rfl) : PE X (.Call (.Attribute e "keys" apos) [] [] cpos) (tKeysV td) := by
  refine ⟨fun pins s σ H Q I h => ?_⟩
  refine wpAny_Call_method (T := "dict") (id := "dict.keys") hbase rfl hline F.plainAttrs_dict F.slot_dict_keys F.type_dict_keys (thn (he.run pins s σ H _ I h) fun u s1 ⟨x, H1, I1, rx, d, kvs, ex, hd, q⟩ => ?_)
  subst ex
  obtain rfl : u = Value.ref d := rx
  obtain ⟨z, hs, vs, rel, dd⟩ := dk_rd I1.hok hd
  refine ⟨dd.typeIs, dd.mapOf.noDict, ?_⟩
  have ho : (s1.heap.push { cls := .type "dict_keys", data := .fields #[.ref d] }).get? s1.heap.objs.size = some { cls := .type "dict_keys", data := .fields #[.ref d] } := Heap.get?_push_size _ rfl
  have I2 : Inv X pins σ (upd H1 s1.heap.objs.size (KeysO s1.heap.objs.size d)) { s1 with heap := s1.heap.push { cls := .type "dict_keys", data := .fields #[.ref d] } } :=
    I1.laid (t' := s1.toks) (fun b ob q => Heap.get?_push_of_some _ q) (Nat.le_refl _) ⟨⟨_, ho, rfl, rfl⟩, ⟨_, ho⟩, fun h1 h2 ⟨o, e1, e2⟩ k => ⟨o, k o e1, e2⟩⟩
  show wpAny _ _ (callWith cpos (.builtin "dict.keys") [.ref d] [] []) _ X.xe s1
  exact method_meetsIn F.slot_dict_keys F.entry_dict_keys rfl (PySem.evalArgs_none ⟨rfl, dd.typeIs, F.args_dict_keys_1 _, _, PySem.W.kdl_meets_keys (mixKind X.prog X.w) d hs, ⟨vs, dd⟩, ⟨.ref s1.heap.objs.size, _, I2, rfl, q _ (I1.hok.fresh (Nat.le_refl _))⟩⟩)
/-- sorted(d.keys()), fewer than 64 whole numbers -/
abbrev rSortedKV : RC := fun xs H Q => ∃ (a d : Addr) (kvs : List (Key × V)) (ks : List Int), xs = [.ref a] ∧ H a = some (KeysO a d) ∧ Rd H d (.dK kvs) ∧ kvs.map (·.1) = ks.map Sum.inl ∧ ks.length < 64 ∧
  ∀ (ys : List Int) (p : Addr), ys.Perm ks → ys.Pairwise (· ≤ ·) → H p = none → Q (.ref p) (upd H p (.lst (ys.map V.int)))
theorem call_sortedKV {X : Cx} (hcalm : X.calm = true) : CallR X (.builtin "sorted") rSortedKV := by
  intro pins s σ H xs us Q I r q
  obtain ⟨a, d, kvs, ks, ex, ha, hd, hks, h64, q⟩ := q
  subst ex
  obtain ⟨u, eu, rx⟩ := vals1 r
  subst eu
  cases rx
  obtain ⟨z, lo, vs, rel, dd⟩ := dk_rd I.hok hd
  obtain ⟨ep, hat⟩ := dd.dictAt
  obtain ⟨view, _, _⟩ := (show ObjOk X.prog X.w H s.heap a (KeysO a d) from I.hok a _ ha)
  have hkeys : vs.map (·.1) = ks.map Sum.inl := rel.keys.symm.trans hks
  have hl : vs.length = ks.length := by
    have e := congrArg List.length hkeys
    rw [List.length_map, List.length_map] at e
    exact e
  have h16 : vs.length ≤ sizeLine := by rw [hl, sizeLine_eq]; omega
  refine Calls.call_function_entry PyProof.Rows.kind_sorted PyProof.Rows.plain_sorted PyProof.Rows.entry_sorted (PyProof.Rows.args_sorted1 _) ?_
  unfold Builtin.«sorted»
  refine wpAny_bind (m := checkCount "sorted" 1 1 _) (wpAny_pure ?_)
  refine wpAny_bind (PySem.W.kdu_collect (A := X.A.in1) (PySem.W.kdl_keys (r := a) (d := d) (knd := mixKind X.prog X.w) (kvs := vs) (ep := ep)) (I.ok.hd hcalm) ⟨view, hat⟩ h16 fun h' tk acc hk hacc => ?_)
  have hal : acc.toList.length = ks.length := by rw [Array.length_toList, hacc.1, hl]
  have hS : IntsAre acc.toList ks := ints_each hal fun j v e => by
    obtain ⟨k, x, e1, e2⟩ := hacc.2 j v (by rw [← Array.getElem?_toList]; exact e)
    have e3 : (vs.map (·.1))[j]? = some k := by rw [List.getElem?_map, e1]; rfl
    rw [hkeys, List.getElem?_map] at e3
    cases e4 : ks[j]? with
    | none => rw [e4] at e3; cases e3
    | some y =>
      rw [e4] at e3
      have e5 : Sum.inl y = k := Option.some.inj e3
      subst e5
      rcases keyIs_shape (show keyIs (Sum.inl y) v = true from e2) with ⟨i, t, ek, ev⟩ | ⟨z, t, ek, ev⟩
      · cases ek
        exact ⟨y, t, rfl, ev⟩
      · cases ek
  have I1 : Inv X pins σ H { s with heap := h', toks := tk } := I.kept hk
  refine wpAny_bind (wpAny_newList ?_ (by rw [hal, sizeLine_eq]; omega))
  have hoL : (h'.push (seqObj "list" acc.toList.toArray 0)).get? h'.objs.size = some (seqObj "list" acc.toList.toArray 0) := Heap.get?_push_size _ rfl
  show wpAny _ _ _ _ _ { s with heap := h'.push (seqObj "list" acc.toList.toArray 0), toks := tk }
  refine wpAny_bind (wpAny_holding (wpAny_call_entry PyProof.Rows.slot_list_sort ⟨_, hoL, rfl⟩ PyProof.Rows.entry_list_sort
    (PyProof.Rows.list_sort_tree (s := { s with heap := h'.push (seqObj "list" acc.toList.toArray 0), toks := tk }) hoL hS (by rw [hal]; exact h64) fun out ys g1 g2 g3 => ⟨_, rfl, ?_⟩) (PyProof.Rows.args_list_sort _)))
  obtain ⟨e', he'⟩ := PyProof.Rows.sortedHeap_at (vs := acc.toList) (out := out) hoL
  have hlen : (ys.map V.int).length ≤ sizeLine := by
    rw [List.length_map, g2.length_eq]
    exact Nat.le_trans (Nat.le_of_lt h64) (by decide)
  refine wpAny_pure ⟨_, rfl, .ref h'.objs.size, upd H h'.objs.size (.lst (ys.map V.int)), I1.laid (t' := tk) (fun b u e => ?_) (Nat.le_refl _)
    (show ObjOk X.prog X.w _ _ _ (.lst (ys.map V.int)) from ⟨hlen, out.toList, e', vals_of_ints g1, by rw [Array.toArray_toList]; exact he'⟩), rfl, q ys _ g2 g3 (I1.hok.fresh (Nat.le_refl _))⟩
  have hb : b < h'.objs.size := Heap.lt_size e
  rw [PyProof.Rows.sortedHeap_old (Nat.ne_of_lt hb) (by rw [size_push']; exact Nat.lt_succ_of_lt hb)]
  exact Heap.get?_push_of_some _ e

/-! ### errors -/
theorem psL {X : Cx} : ∀ σ, PassesAt (L2.CX X.prog X.w) X σ (ES0 σ) := fun _ _ _ _ _ _ _ h => by
  obtain ⟨_, _, _, _, _, _, _, _, _, _, _, _, z⟩ := h
  exact z.elim
def errNames : List Str := ["NoName", "BadKind", "NoText", "NoPerson", "Taken", "NoKind", "NoMatter", "NoThing", "NoWay", "NoRows", "NoDay", "NoHold", "NoTelling", "NoAnswer", "Answered"]
def excB (K : PySem.W.Frag) (D : Addr) : Bool :=
  He.eqO (PySem.W.findIn K (.ref D) "__getattribute__") (some (some (.builtin "BaseException.__getattribute__"))) && (He.eqO (PySem.W.findIn K (.ref D) "__getattr__") (some none) &&
  (decide (PySem.W.subIn K (.ref D) (.type "BaseException") = some true) && (PySem.W.hasDictIn K D && (He.eqO (PySem.W.findIn K (.ref D) "__class__") (some (some (.builtin "object.__class__"))) &&
  (He.eqO (PySem.W.specialIn K (.builtin "object.__class__") "__get__") (some (some (.builtin "getset_descriptor.__get__"))) && (decide (PySem.W.takesIn K (.builtin "object.__class__") = some true) && decide (PySem.W.mroIn K D (.type "object") = some true)))))))
theorem excB_ok {K : PySem.W.Frag} {D : Addr} (h : excB K D = true) : ExcC K D := by
  obtain ⟨h1, h⟩ := He.ba h
  obtain ⟨h2, h⟩ := He.ba h
  obtain ⟨h3, h⟩ := He.ba h
  obtain ⟨h4, h⟩ := He.ba h
  obtain ⟨h5, h⟩ := He.ba h
  obtain ⟨h6, h⟩ := He.ba h
  obtain ⟨h7, h8⟩ := He.ba h
  exact ⟨He.eqO_ok h1, He.eqO_ok h2, of_decide_eq_true h3, h4, He.eqO_ok h5, He.eqO_ok h6, of_decide_eq_true h7, of_decide_eq_true h8⟩
/-- what is told of the error classes -/
structure ErrK (K : PySem.W.Frag) : Prop where
  exc : ∀ x ∈ errNames, ExcC K (He.ga K x)
  exm : ∀ x ∈ errNames, PySem.W.exmOne K (.ref (He.ga K x)) (.ref (He.ga K "HallError")) = some true
  kit : ∀ x ∈ errNames, ∀ y ∈ errNames, PySem.W.kitOne K (.ref (He.ga K x)) (.ref (He.ga K y)) = some (decide (x = y))
  kitH : ∀ x ∈ errNames, PySem.W.kitOne K (.ref (He.ga K x)) (.ref (He.ga K "HallError")) = some true
  kitV : ∀ x ∈ errNames, PySem.W.kitOne K (.ref (He.ga K x)) (.type "ValueError") = some true
def errB (K : PySem.W.Frag) : Bool := errNames.all fun x => excB K (He.ga K x) && (decide (PySem.W.exmOne K (.ref (He.ga K x)) (.ref (He.ga K "HallError")) = some true) &&
  ((errNames.all fun y => decide (PySem.W.kitOne K (.ref (He.ga K x)) (.ref (He.ga K y)) = some (decide (x = y)))) && (decide (PySem.W.kitOne K (.ref (He.ga K x)) (.ref (He.ga K "HallError")) = some true) && decide (PySem.W.kitOne K (.ref (He.ga K x)) (.type "ValueError") = some true))))
theorem errB_ok {K : PySem.W.Frag} (h : errB K = true) : ErrK K := by
  have h1 := List.all_eq_true.mp h
  refine ⟨fun x hx => excB_ok (He.ba (h1 x hx)).1, fun x hx => of_decide_eq_true (He.ba (He.ba (h1 x hx)).2).1, fun x hx y hy => ?_, fun x hx => ?_, fun x hx => ?_⟩
  · exact of_decide_eq_true (List.all_eq_true.mp (He.ba (He.ba (He.ba (h1 x hx)).2).2).1 y hy)
  · exact of_decide_eq_true (He.ba (He.ba (He.ba (He.ba (h1 x hx)).2).2).2).1
  · exact of_decide_eq_true (He.ba (He.ba (He.ba (He.ba (h1 x hx)).2).2).2).2
end U

set_option Elab.async false
set_option linter.all false
set_option maxRecDepth 100000
set_option maxHeartbeats 4000000
/-! Helpers for the readings: what stays, comprehensions whose element leaves the heap alone, texts, types. -/
namespace U
open PySem PySem.Spec PyProof.Rows L2

/-! ### what stays -/
/-- all that was tracked stays, but what stands at l -/
structure Keep (l : List Addr) (H H' : Hp) : Prop where
  k : ∀ b o, H b = some o → b ∉ l → H' b = some o
theorem Keep.refl {l : List Addr} {H : Hp} : Keep l H H := ⟨fun _ _ h _ => h⟩
theorem Keep.trans {l : List Addr} {H H1 H2 : Hp} (a : Keep l H H1) (b : Keep l H1 H2) : Keep l H H2 := ⟨fun c o h n => b.k c o (a.k c o h n) n⟩
theorem Keep.same {l : List Addr} {H H1 : Hp} (a : Same H H1) : Keep l H H1 := ⟨fun c o h _ => a c o h⟩
theorem Keep.mono {l l' : List Addr} {H H1 : Hp} (a : Keep l H H1) (h : ∀ x, x ∈ l → x ∈ l') : Keep l' H H1 := ⟨fun c o e n => a.k c o e fun z => n (h c z)⟩
theorem Keep.put {l : List Addr} {H H1 : Hp} {p : Addr} {o : HO} (a : Keep l H H1) (h : p ∈ l) : Keep l H (upd H1 p o) := ⟨fun c u e n => by
  have z : c ≠ p := fun z => n (by rw [z]; exact h)
  rw [upd_ne z]
  exact a.k c u e n⟩
theorem Keep.new {l : List Addr} {H H1 : Hp} {p : Addr} {o : HO} (a : Keep l H H1) (h : H p = none) : Keep l H (upd H1 p o) := ⟨fun c u e n => by
  rw [upd_ne (ne_of_none e h)]
  exact a.k c u e n⟩
theorem Keep.free {l : List Addr} {H H1 : Hp} {p : Addr} (a : Keep l H H1) (n : p ∉ l) (h : H1 p = none) : H p = none := by
  cases e : H p with
  | none => rfl
  | some o =>
    rw [a.k p o e n] at h
    cases h
/-- what wasn't there ahead may be changed: all as before -/
theorem Keep.drop {p : Addr} {H0 H H1 : Hp} (a : Keep [p] H H1) (s : Same H0 H) (n : H0 p = none) : Same H0 H1 := fun c o e => a.k c o (s c o e) (by
  intro z
  rw [List.mem_singleton.mp z, n] at e
  cases e)
theorem Keep.seq {K : PySem.W.Frag} {l : List Addr} {H H1 : Hp} {a : Addr} {xs : List V} (k : Keep l H H1) (n : a ∉ l) (h : SqL K H a xs) : SqL K H1 a xs := by
  rcases h with (h | ⟨o, h⟩) | h
  · exact .inl (.inl (k.k _ _ h n))
  · exact .inl (.inr ⟨o, k.k _ _ h n⟩)
  · exact .inr h
theorem same_new {H : Hp} {p : Addr} {o : HO} (h : H p = none) : Same H (upd H p o) := fun c u e => by
  rw [upd_ne (ne_of_none e h)]
  exact e
theorem Same.new {H H1 : Hp} {p : Addr} {o : HO} (a : Same H H1) (h : H1 p = none) : Same H (upd H1 p o) := a.trans (same_new h)
theorem _root_.L2.Same.new {H H1 : Hp} {p : Addr} {o : HO} (a : Same H H1) (h : H1 p = none) : Same H (upd H1 p o) := a.trans (same_new h)
/-- an object that H doesn't know may change -/
theorem Same.mut {H H1 : Hp} {p : Addr} {o : HO} (a : Same H H1) (h : H p = none) : Same H (upd H1 p o) := fun c u e => by
  rw [upd_ne (ne_of_none e h)]
  exact a c u e
theorem seq_upd {K : PySem.W.Frag} {H : Hp} {a p : Addr} {xs : List V} {o : HO} (h : SqL K H a xs) (n : H p = none) : SqL K (upd H p o) a xs := (same_new n).seq h
theorem Same.seqT {K : PySem.W.Frag} {H H' : Hp} {a : Addr} {xs : List V} (e : Same H H') (h : SqT K H a xs) : SqT K H' a xs := by
  rcases h with (h | ⟨o, h⟩) | h
  · exact .inl (.inl (e _ _ h))
  · exact .inl (.inr ⟨o, e _ _ h⟩)
  · exact .inr h

/-! ### slots -/
theorem wipe1 {σ : L2.St} {j : Nat} {v : Option V} : wipe ((wipe σ [j]).set j v) [j] = wipe σ [j] := by
  show ((σ.set j none).set j v).set j none = σ.set j none
  rw [List.set_set, List.set_set]

/-! ### comprehensions whose test and element leave the heap alone -/
section
variable {K : PySem.W.Frag} {tt : TT} {te : TE} {σ : L2.St} {H1 : Hp} {D : Addr} {Q : Hp → Prop} {j : Nat}
/-- over a text -/
theorem lc_str {x : Str} {g : TG} {vs : List Nat} (Pv : Nat → Hp → Prop) (h0 : Pv 0 (upd H1 D (.lst [])))
    (hs : ∀ i c H, x.cps[i]? = some c → Pv i H → g (.str ⟨#[c]⟩) (wipe σ vs) H fun σ2 H2 => wipe σ2 vs = wipe σ vs ∧ tt σ2 H2 fun b H3 =>
      if b = true then te σ2 H3 fun y H4 => ∃ acc, H4 D = some (.lst acc) ∧ acc.length < sizeLine ∧ Pv (i + 1) (upd H4 D (.lst (acc ++ [y]))) else Pv (i + 1) H3) (hd : ∀ H, Pv x.cps.size H → Q H) :
    ∃ W : Nat → Nat → Hp → Prop, (∃ m, W 0 m (upd H1 D (.lst []))) ∧ ∀ i m H, W i m H →
      ((Its x).stop i H ∧ Q H) ∨ ((Its x).go i H ∧ ∃ Nx : Hp → Prop, (∀ H', Nx H' → ∃ m', m' < m ∧ W (i + 1) m' H') ∧ ∀ y H', (Its x).yld i H y H' → g y (wipe σ vs) H' fun σ2 H2 => wipe σ2 vs = wipe σ vs ∧ tt σ2 H2 fun b H3 =>
        if b = true then te σ2 H3 fun y H4 => ∃ acc, H4 D = some (.lst acc) ∧ acc.length < sizeLine ∧ Nx (upd H4 D (.lst (acc ++ [y]))) else Nx H3) := by
  refine ⟨fun i m H => m = x.cps.size - i ∧ i ≤ x.cps.size ∧ Pv i H, ⟨x.cps.size, by simp, Nat.zero_le _, h0⟩, ?_⟩
  rintro i m H ⟨rfl, hi, p⟩
  by_cases hlt : i < x.cps.size
  · refine .inr ⟨hlt, Pv (i + 1), fun H' p' => ⟨x.cps.size - (i + 1), by omega, rfl, hlt, p'⟩, fun y H' z => ?_⟩
    obtain ⟨e, c, hc, rfl⟩ := z
    subst e
    exact hs i c _ hc p
  · have e : i = x.cps.size := by omega
    subst e
    exact .inl ⟨Nat.le_refl _, hd H p⟩
theorem take_snoc {α : Type} {l : List α} {i : Nat} {x : α} (h : l[i]? = some x) : l.take (i + 1) = l.take i ++ [x] := by
  rw [List.take_add_one, h]
  rfl
theorem lcs_fm {x : Str} (p : Nat → Bool) (f : Nat → V) (hx : x.cps.size ≤ 1000000)
    (ht : ∀ c acc (R : Bool → Hp → Prop), c ∈ x.cps.toList → R (p c) (upd H1 D (.lst acc)) → tt ((wipe σ [j]).set j (some (.str ⟨#[c]⟩))) (upd H1 D (.lst acc)) R)
    (he : ∀ c acc (R : VK), c ∈ x.cps.toList → p c = true → R (f c) (upd H1 D (.lst acc)) → te ((wipe σ [j]).set j (some (.str ⟨#[c]⟩))) (upd H1 D (.lst acc)) R)
    (hd : Q (upd H1 D (.lst ((x.cps.toList.filter p).map f)))) :
    ∃ W : Nat → Nat → Hp → Prop, (∃ m, W 0 m (upd H1 D (.lst []))) ∧ ∀ i m H, W i m H →
      ((Its x).stop i H ∧ Q H) ∨ ((Its x).go i H ∧ ∃ Nx : Hp → Prop, (∀ H', Nx H' → ∃ m', m' < m ∧ W (i + 1) m' H') ∧ ∀ y H', (Its x).yld i H y H' → gName j y (wipe σ [j]) H' fun σ2 H2 => wipe σ2 [j] = wipe σ [j] ∧ tt σ2 H2 fun b H3 =>
        if b = true then te σ2 H3 fun y H4 => ∃ acc, H4 D = some (.lst acc) ∧ acc.length < sizeLine ∧ Nx (upd H4 D (.lst (acc ++ [y]))) else Nx H3) := by
  refine lc_str (g := gName j) (vs := [j]) (fun i H => H = upd H1 D (.lst (((x.cps.toList.take i).filter p).map f))) (by simp) (fun i c H hc e => ?_) (fun H e => ?_)
  · subst e
    have hc' : x.cps.toList[i]? = some c := by rw [Array.getElem?_toList]; exact hc
    have hm : c ∈ x.cps.toList := List.mem_of_getElem? hc'
    refine ⟨wipe1, ht c _ _ hm ?_⟩
    have hlen : (((x.cps.toList.take i).filter p).map f).length < sizeLine := by
      rw [List.length_map, sizeLine_eq]
      have h1 := List.length_filter_le p (x.cps.toList.take i)
      rw [List.length_take] at h1
      have h2 : i < x.cps.toList.length := (List.getElem?_eq_some_iff.mp hc').1
      rw [Array.length_toList] at h2
      omega
    by_cases hp : p c = true
    · rw [hp]
      refine iteT (he c _ _ hm hp ⟨_, upd_same, hlen, ?_⟩)
      rw [upd_upd, take_snoc hc', List.filter_append, List.map_append]
      simp [hp]
    · have hp' : p c = false := by simpa using hp
      rw [hp']
      refine iteF ?_
      rw [take_snoc hc', List.filter_append, List.map_append]
      simp [hp']
  · rw [e, ← Array.length_toList, List.take_length]
    exact hd
/-- over a list -/
theorem lcl_fm {a : Addr} {xs : List V} (p : V → Bool) (f : V → V) (hs : SqL K H1 a xs) (hD : H1 D = none) (hx : xs.length ≤ 1000000)
    (ht : ∀ v acc (R : Bool → Hp → Prop), v ∈ xs → R (p v) (upd H1 D (.lst acc)) → tt ((wipe σ [j]).set j (some v)) (upd H1 D (.lst acc)) R)
    (he : ∀ v acc (R : VK), v ∈ xs → p v = true → R (f v) (upd H1 D (.lst acc)) → te ((wipe σ [j]).set j (some v)) (upd H1 D (.lst acc)) R)
    (hd : Q (upd H1 D (.lst ((xs.filter p).map f)))) :
    ∃ W : Nat → Nat → Hp → Prop, (∃ m, W 0 m (upd H1 D (.lst []))) ∧ ∀ i m H, W i m H →
      ((Itl K a).stop i H ∧ Q H) ∨ ((Itl K a).go i H ∧ ∃ Nx : Hp → Prop, (∀ H', Nx H' → ∃ m', m' < m ∧ W (i + 1) m' H') ∧ ∀ y H', (Itl K a).yld i H y H' → gName j y (wipe σ [j]) H' fun σ2 H2 => wipe σ2 [j] = wipe σ [j] ∧ tt σ2 H2 fun b H3 =>
        if b = true then te σ2 H3 fun y H4 => ∃ acc, H4 D = some (.lst acc) ∧ acc.length < sizeLine ∧ Nx (upd H4 D (.lst (acc ++ [y]))) else Nx H3) := by
  refine lc_list (g := gName j) (vs := [j]) (xs := xs) (fun i H => H = upd H1 D (.lst (((xs.take i).filter p).map f))) (by simp) (fun i H _ e => by rw [e]; exact seq_upd hs hD) (fun i c H hc e => ?_) (fun H e => ?_)
  · subst e
    have hm : c ∈ xs := List.mem_of_getElem? hc
    refine ⟨wipe1, ht c _ _ hm ?_⟩
    have hlen : (((xs.take i).filter p).map f).length < sizeLine := by
      rw [List.length_map, sizeLine_eq]
      have h1 := List.length_filter_le p (xs.take i)
      rw [List.length_take] at h1
      have h2 : i < xs.length := (List.getElem?_eq_some_iff.mp hc).1
      omega
    by_cases hp : p c = true
    · rw [hp]
      refine iteT (he c _ _ hm hp ⟨_, upd_same, hlen, ?_⟩)
      rw [upd_upd, take_snoc hc, List.filter_append, List.map_append]
      simp [hp]
    · have hp' : p c = false := by simpa using hp
      rw [hp']
      refine iteF ?_
      rw [take_snoc hc, List.filter_append, List.map_append]
      simp [hp']
  · rw [e, List.take_length]
    exact hd
theorem lcs_m {x : Str} (f : Nat → V) (hx : x.cps.size ≤ 1000000)
    (he : ∀ c acc (R : VK), c ∈ x.cps.toList → R (f c) (upd H1 D (.lst acc)) → te ((wipe σ [j]).set j (some (.str ⟨#[c]⟩))) (upd H1 D (.lst acc)) R)
    (hd : Q (upd H1 D (.lst (x.cps.toList.map f)))) :
    ∃ W : Nat → Nat → Hp → Prop, (∃ m, W 0 m (upd H1 D (.lst []))) ∧ ∀ i m H, W i m H →
      ((Its x).stop i H ∧ Q H) ∨ ((Its x).go i H ∧ ∃ Nx : Hp → Prop, (∀ H', Nx H' → ∃ m', m' < m ∧ W (i + 1) m' H') ∧ ∀ y H', (Its x).yld i H y H' → gName j y (wipe σ [j]) H' fun σ2 H2 => wipe σ2 [j] = wipe σ [j] ∧ tYes σ2 H2 fun b H3 =>
        if b = true then te σ2 H3 fun y H4 => ∃ acc, H4 D = some (.lst acc) ∧ acc.length < sizeLine ∧ Nx (upd H4 D (.lst (acc ++ [y]))) else Nx H3) := by
  refine lcs_fm (fun _ => true) f hx (fun c acc R _ r => r) (fun c acc R hc _ r => he c acc R hc r) ?_
  rw [List.filter_eq_self.mpr (fun _ _ => rfl)]
  exact hd
theorem lcl_m {a : Addr} {xs : List V} (f : V → V) (hs : SqL K H1 a xs) (hD : H1 D = none) (hx : xs.length ≤ 1000000)
    (he : ∀ v acc (R : VK), v ∈ xs → R (f v) (upd H1 D (.lst acc)) → te ((wipe σ [j]).set j (some v)) (upd H1 D (.lst acc)) R)
    (hd : Q (upd H1 D (.lst (xs.map f)))) :
    ∃ W : Nat → Nat → Hp → Prop, (∃ m, W 0 m (upd H1 D (.lst []))) ∧ ∀ i m H, W i m H →
      ((Itl K a).stop i H ∧ Q H) ∨ ((Itl K a).go i H ∧ ∃ Nx : Hp → Prop, (∀ H', Nx H' → ∃ m', m' < m ∧ W (i + 1) m' H') ∧ ∀ y H', (Itl K a).yld i H y H' → gName j y (wipe σ [j]) H' fun σ2 H2 => wipe σ2 [j] = wipe σ [j] ∧ tYes σ2 H2 fun b H3 =>
        if b = true then te σ2 H3 fun y H4 => ∃ acc, H4 D = some (.lst acc) ∧ acc.length < sizeLine ∧ Nx (upd H4 D (.lst (acc ++ [y]))) else Nx H3) := by
  refine lcl_fm (fun _ => true) f hs hD hx (fun c acc R _ r => r) (fun c acc R hc _ r => he c acc R hc r) ?_
  rw [List.filter_eq_self.mpr (fun _ _ => rfl)]
  exact hd
end

/-! ### data -/
theorem dpAll_ints {K : PySem.W.Frag} {H : Hp} : ∀ ns : List Int, DpAll K H (ns.map V.int) (ns.map PyData.int)
  | [] => .nil
  | n :: r => .cons (.int n) (dpAll_ints r)
theorem dpAll_strs {K : PySem.W.Frag} {H : Hp} : ∀ ns : List Str, DpAll K H (ns.map V.str) (ns.map PyData.str)
  | [] => .nil
  | n :: r => .cons (.str n) (dpAll_strs r)

theorem strOk_of {z : Str} (h : ∀ c ∈ z.cps.toList, c < 1114112) : PyData.strOk z = true := by
  unfold PyData.strOk
  rw [← Array.all_toList]
  exact List.all_eq_true.mpr fun c hc => decide_eq_true (h c hc)
theorem canLay_strs : ∀ {l : List Str}, (∀ z ∈ l, ∀ c ∈ z.cps.toList, c < 1114112) → PyData.canLayAll0 (l.map PyData.str) = true
  | [], _ => rfl
  | z :: r, h => by
    show (PyData.strOk z && PyData.canLayAll0 (r.map PyData.str)) = true
    rw [strOk_of (h z (List.mem_cons_self ..)), canLay_strs fun y hy => h y (List.mem_cons_of_mem _ hy)]
    rfl
theorem depth_strs : ∀ l : List Str, PyData.depthAll (l.map PyData.str) = 0
  | [] => by simp [PyData.depthAll]
  | z :: r => by
    rw [List.map_cons, PyData.depthAll, depth_strs r]
    simp [PyData.depth]
theorem shaped_strs {l : List Str} (h : ∀ z ∈ l, ∀ c ∈ z.cps.toList, c < 1114112) : SeqAt.shaped (.list (l.map PyData.str)) = true := by
  unfold SeqAt.shaped
  have e1 : PyData.canLay0 (.list (l.map PyData.str)) = true := canLay_strs h
  have e2 : PyData.depth (.list (l.map PyData.str)) = 1 := by rw [PyData.depth, depth_strs]
  rw [e1, e2]
  rfl
theorem canLay_ints : ∀ l : List Int, PyData.canLayAll0 (l.map PyData.int) = true
  | [] => rfl
  | z :: r => by
    show (true && PyData.canLayAll0 (r.map PyData.int)) = true
    rw [canLay_ints r]
    rfl
theorem depth_ints : ∀ l : List Int, PyData.depthAll (l.map PyData.int) = 0
  | [] => by simp [PyData.depthAll]
  | z :: r => by
    rw [List.map_cons, PyData.depthAll, depth_ints r]
    simp [PyData.depth]
theorem shaped_ints (l : List Int) : SeqAt.shaped (.list (l.map PyData.int)) = true := by
  unfold SeqAt.shaped
  have e1 : PyData.canLay0 (.list (l.map PyData.int)) = true := canLay_ints l
  have e2 : PyData.depth (.list (l.map PyData.int)) = 1 := by rw [PyData.depth, depth_ints]
  rw [e1, e2]
  rfl
theorem eqv_nil (xs : List PyData) : PyData.eqv (.list xs) (.list []) = xs.isEmpty := by
  rw [PyData.eqv]
  cases xs with
  | nil => simp [PyData.eqvAll]
  | cons x r => simp [PyData.eqvAll]

/-! ### the letters -/
abbrev abc : Str := "abcdefghijklmnopqrstuvwxyz"
theorem abc_len : abc.cps.toList.length = 26 := by decide +kernel
theorem abc_size : abc.length = 26 := by decide +kernel

theorem abc_at {d : Int} (h0 : 0 ≤ d) (h1 : d < 26) : ∃ c, atI abc.cps.toList d = some c ∧ c ∈ abc.cps.toList := by
  obtain ⟨j, rfl⟩ : ∃ j : Nat, d = (j : Int) := ⟨d.toNat, by omega⟩
  have hj : j < abc.cps.toList.length := by rw [abc_len]; omega
  exact ⟨abc.cps.toList[j], atI_nat (List.getElem?_eq_getElem hj), List.getElem_mem hj⟩
/-- an item of a written text at a place within -/
theorem str_at {z : Str} {n : Nat} (hn : z.cps.toList.length = n) {d : Int} (h0 : 0 ≤ d) (h1 : d < n) : ∃ c, atI z.cps.toList d = some c ∧ c ∈ z.cps.toList := by
  obtain ⟨j, rfl⟩ : ∃ j : Nat, d = (j : Int) := ⟨d.toNat, by omega⟩
  have hj : j < z.cps.toList.length := by omega
  exact ⟨z.cps.toList[j], atI_nat (List.getElem?_eq_getElem hj), List.getElem_mem hj⟩
theorem joinL_one : ∀ cs : List Nat, TL.joinL [] (cs.map fun c => [c]) = cs
  | [] => rfl
  | [c] => rfl
  | c :: d :: r => by
    show [c] ++ ([] ++ TL.joinL [] ((d :: r).map fun c => [c])) = c :: d :: r
    rw [joinL_one (d :: r)]
    rfl
/-- "".join of single signs -/
theorem join_signs (cs : List Nat) : Txt.join "" (cs.map fun c => (⟨#[c]⟩ : Str)) = SX.S cs := by
  have e := SX.join_S [] (cs.map fun c => [c])
  rw [joinL_one, List.map_map] at e
  exact e
theorem signs_len : ∀ cs : List Nat, ((cs.map fun c => (⟨#[c]⟩ : Str)).map (·.length)).sum = cs.length
  | [] => rfl
  | c :: r => by
    rw [List.map_cons, List.map_cons, List.sum_cons, signs_len r, List.length_cons]
    show 1 + r.length = r.length + 1
    omega

/-! ### names -/
def isNmS (z : Str) : Bool := decide (1 ≤ z.length) && decide (z.length ≤ 8) && z.cps.toList.all fun c => decide (c ∈ abc.cps.toList)
def isNm : V → Bool
  | .str z => isNmS z
  | _ => false

/-! ### a value whose type is known -/
structure TxOk (z : Str) : Prop where
  len : z.length ≤ 100000
  ok : ∀ c ∈ z.cps.toList, c < 1114112
def isStrV : V → Bool
  | .str _ => true
  | _ => false
/-- a text in bounds, or something of a built-in type that is no text -/
def Kn (K : PySem.W.Frag) (H : Hp) (v : V) : Prop := (∃ z, v = .str z ∧ TxOk z) ∨ (isStrV v = false ∧ ∃ T : String, TyX K H v (.type T) ∧ T ∈ ["int", "bool", "NoneType", "list", "tuple", "dict"])
theorem _root_.L2.TyX.same {K : PySem.W.Frag} {H H' : Hp} {v : V} {t : Value} (s : Same H H') (h : TyX K H v t) : TyX K H' v t := by
  cases h with
  | base h =>
    cases h with
    | non => exact .base .non
    | bl x => exact .base (.bl x)
    | int i => exact .base (.int i)
    | str x => exact .base (.str x)
    | flt x => exact .base (.flt x)
    | lst e => exact .base (.lst (s _ _ e))
    | frz e => exact .base (.frz (s _ _ e))
    | tup e => exact .base (.tup (s _ _ e))
    | dK e => exact .base (.dK (s _ _ e))
    | dT e => exact .base (.dT (s _ _ e))
    | ins e cl ha hn htk hm => exact .base (.ins (s _ _ e) cl ha hn htk hm)
  | byt b => exact .byt b
  | set e => exact .set (s _ _ e)
  | kList e c => exact .kList e c
  | kTuple e c => exact .kTuple e c
  | kDict e c => exact .kDict e c
  | fTuple e => exact .fTuple (s _ _ e)
  | fDict e => exact .fDict (s _ _ e)
theorem Kn.same {K : PySem.W.Frag} {H H' : Hp} {v : V} (s : Same H H') (h : Kn K H v) : Kn K H' v := by
  rcases h with h | ⟨h1, T, h2, h3⟩
  · exact .inl h
  · exact .inr ⟨h1, T, TyX.same s h2, h3⟩
theorem kit_str {T : String} (h : T ∈ ["int", "bool", "NoneType", "list", "tuple", "dict"]) : kitB T "str" = some false := by
  simp only [List.mem_cons, List.not_mem_nil, or_false] at h
  rcases h with rfl | rfl | rfl | rfl | rfl | rfl <;> decide +kernel
theorem kit_str_str : kitB "str" "str" = some true := by decide +kernel
section
variable {K : PySem.W.Frag} {H : Hp}
theorem Kn.str {z : Str} (h : TxOk z) : Kn K H (.str z) := .inl ⟨z, rfl, h⟩
theorem Kn.int (i : Int) : Kn K H (.int i) := .inr ⟨rfl, "int", .base (.int i), by simp⟩
theorem Kn.bl (b : Bool) : Kn K H (.bl b) := .inr ⟨rfl, "bool", .base (.bl b), by simp⟩
theorem Kn.non : Kn K H .non := .inr ⟨rfl, "NoneType", .base .non, by simp⟩
theorem Kn.lst {a : Addr} {xs : List V} (h : H a = some (.lst xs)) : Kn K H (.ref a) := .inr ⟨rfl, "list", .base (.lst h), by simp⟩
theorem Kn.tup {a : Addr} {xs : List V} (h : H a = some (.tup xs)) : Kn K H (.ref a) := .inr ⟨rfl, "tuple", .base (.tup h), by simp⟩
theorem Kn.dct {a : Addr} {kvs : List (Key × V)} (h : H a = some (.dK kvs)) : Kn K H (.ref a) := .inr ⟨rfl, "dict", .base (.dK h), by simp⟩
end
/-- isinstance(v, str): the type and the answer -/
theorem Kn.isS (K : PySem.W.Frag) {H : Hp} {v : V} (kn : Kn K H v) : ∃ T : String, TyX K H v (.type T) ∧ PySem.W.kitOne K (.type T) (.type "str") = some (isStrV v) := by
  rcases kn with ⟨z, rfl, h⟩ | ⟨h1, T, ty, ht⟩
  · exact ⟨_, .base (.str z), kit_ty kit_str_str⟩
  · exact ⟨T, ty, by rw [h1]; exact kit_ty (kit_str ht)⟩
theorem Kn.tx {K : PySem.W.Frag} {H : Hp} {z : Str} (kn : Kn K H (.str z)) : TxOk z := by
  rcases kn with ⟨z', e, h⟩ | ⟨h1, _⟩
  · cases e
    exact h
  · cases h1
theorem isNm_notStr {v : V} (h : isStrV v = false) : isNm v = false := by
  cases v with
  | str z => cases h
  | _ => rfl
theorem isStrV_str {v : V} (h : isStrV v = true) : ∃ z, v = .str z := by
  cases v with
  | str z => exact ⟨z, rfl⟩
  | _ => cases h
theorem isNm_str {v : V} (h : isNm v = true) : ∃ z, v = .str z := by
  cases v with
  | str z => exact ⟨z, rfl⟩
  | _ => cases h
theorem TxOk.cut {z : Str} (h : TxOk z) (lo hi : Option Int) : TxOk (cutS z lo hi) := ⟨Nat.le_trans (cutS_length z lo hi) h.1, fun c hc => h.2 c (List.mem_of_mem_drop (List.mem_of_mem_take (by simpa [cutS] using hc)))⟩
theorem str_cat_toList (a b : Str) : (a ++ b).cps.toList = a.cps.toList ++ b.cps.toList := TL.tl_append a b
theorem str_cat_len (a b : Str) : (a ++ b).length = a.length + b.length := by
  have e := congrArg List.length (str_cat_toList a b)
  rw [List.length_append] at e
  simpa [Str.length] using e
theorem TxOk.cat {a b : Str} {n m : Nat} (ha : TxOk a) (hb : TxOk b) (la : a.length ≤ n) (lb : b.length ≤ m) (h : n + m ≤ 100000) : TxOk (a ++ b) := ⟨by rw [str_cat_len]; omega, fun c hc => by
  rw [str_cat_toList] at hc
  rcases List.mem_append.mp hc with hc | hc
  · exact ha.2 c hc
  · exact hb.2 c hc⟩
theorem one_ok {c : Nat} (h : c < 1114112) : TxOk ⟨#[c]⟩ := ⟨(by show 1 ≤ 100000; decide), fun d hd => by
  have e : d = c := by simpa using hd
  rw [e]
  exact h⟩
theorem nil_ok : TxOk "" := ⟨Nat.zero_le _, fun c hc => by
  have e0 : ("" : Str).cps.toList = [] := by decide +kernel
  rw [e0] at hc
  cases hc⟩

/-! ### errors, by their names -/
theorem clsv_errs (K : PySem.W.Frag) : ∀ ys : List Str, Paired ClsV (ys.map fun y => V.ref (He.ga K y)) (ys.map fun y => Value.ref (He.ga K y))
  | [] => .nil
  | y :: r => .cons (.own _) (clsv_errs K r)
theorem kitAny_errs {K : PySem.W.Frag} (EK : ErrK K) {x : Str} (hx : x ∈ errNames) : ∀ ys : List Str, (∀ y ∈ ys, y ∈ errNames) → PySem.W.kitAny K (.ref (He.ga K x)) (ys.map fun y => Value.ref (He.ga K y)) = some (ys.any fun y => decide (x = y))
  | [], _ => rfl
  | y :: r, h => by
    have ih := kitAny_errs EK hx r fun z hz => h z (List.mem_cons_of_mem _ hz)
    have h1 := EK.kit x hx y (h y (List.mem_cons_self ..))
    refine kitAny_cons (b := decide (x = y)) h1 (fun e => ?_) (fun e => ?_)
    · show PySem.W.kitAny K (.ref (He.ga K x)) (r.map fun y => Value.ref (He.ga K y)) = some (decide (x = y) || r.any fun y => decide (x = y))
      rw [ih, e]
      rfl
    · show (decide (x = y) || r.any fun y => decide (x = y)) = true
      rw [e]
      rfl

/-! ### all but one object -/
def off (p : Addr) (H : Hp) : Hp := fun b => if b = p then none else H b
theorem off_at {p b : Addr} {H : Hp} {o : HO} (h : H b = some o) (n : b ≠ p) : off p H b = some o := by
  unfold off
  rw [if_neg n]
  exact h
theorem off_same {p : Addr} {H : Hp} : Same (off p H) H := fun b o h => by
  unfold off at h
  split at h
  · cases h
  · exact h
theorem Keep.off {p : Addr} {H H' : Hp} (k : Keep [p] H H') : Same (off p H) (U.off p H') := fun b o h => by
  have n : b ≠ p := fun e => by
    unfold U.off at h
    rw [if_pos e] at h
    cases h
  exact off_at (k.k b o (off_same _ _ h) (by simp [n])) n
theorem off_of_same {p : Addr} {H H' : Hp} (s : Same H H') : Same (off p H) (off p H') := (Keep.same s).off

/-! ### data in the heap -/
mutual
theorem Dp.same {K : PySem.W.Frag} {H H' : Hp} (s : Same H H') : ∀ {v : V} {d : PyData}, Dp K H v d → Dp K H' v d
  | _, _, .non => .non
  | _, _, .bl b => .bl b
  | _, _, .int i => .int i
  | _, _, .str x => .str x
  | _, _, .lst h hs => .lst (s.seq h) (DpAll.same s hs)
  | _, _, .tup h hs => .tup (Same.seqT s h) (DpAll.same s hs)
theorem DpAll.same {K : PySem.W.Frag} {H H' : Hp} (s : Same H H') : ∀ {vs : List V} {ds : List PyData}, DpAll K H vs ds → DpAll K H' vs ds
  | _, _, .nil => .nil
  | _, _, .cons h hs => .cons (Dp.same s h) (DpAll.same s hs)
end
def tyD : PyData → String
  | .none => "NoneType"
  | .bool _ => "bool"
  | .int _ => "int"
  | .str _ => "str"
  | .list _ => "list"
  | .tuple _ => "tuple"
  | .dict _ => "dict"
theorem _root_.L2.Dp.ty {K : PySem.W.Frag} {H : Hp} {v : V} {d : PyData} (h : Dp K H v d) : TyX K H v (.type (tyD d)) := by
  cases h with
  | non => exact .base .non
  | bl b => exact .base (.bl b)
  | int i => exact .base (.int i)
  | str x => exact .base (.str x)
  | lst h _ =>
    rcases h with (h | ⟨o, h⟩) | h
    · exact .base (.lst h)
    · exact .base (.frz h)
    · obtain ⟨o, its, n, hk, hc, _⟩ := h
      exact .kList hk hc
  | tup h _ =>
    rcases h with (h | ⟨o, h⟩) | h
    · exact .base (.tup h)
    · exact .fTuple h
    · obtain ⟨o, its, n, hk, hc, _⟩ := h
      exact .kTuple hk hc
structure Dt (K : PySem.W.Frag) (H : Hp) (v : V) (d : PyData) : Prop where
  dp : Dp K H v d
  sh : SeqAt.shaped d = true
theorem Dt.same {K : PySem.W.Frag} {H H' : Hp} {v : V} {d : PyData} (s : Same H H') (h : Dt K H v d) : Dt K H' v d := ⟨Dp.same s h.dp, h.sh⟩
theorem Dt.of_off {K : PySem.W.Frag} {p : Addr} {H : Hp} {v : V} {d : PyData} (h : Dt K (off p H) v d) : Dt K H v d := h.same off_same
theorem Kn.of_off {K : PySem.W.Frag} {p : Addr} {H : Hp} {v : V} (h : Kn K (off p H) v) : Kn K H v := Kn.same off_same h
def noDict : PyData → Bool
  | .dict _ => false
  | _ => true
theorem _root_.L2.Dp.nd {K : PySem.W.Frag} {H : Hp} {v : V} {d : PyData} (h : Dp K H v d) : noDict d = true := by
  cases h <;> rfl
def isIntD : PyData → Bool
  | .int _ => true
  | .bool _ => true
  | _ => false
def isBoolD : PyData → Bool
  | .bool _ => true
  | _ => false
def isStrD : PyData → Bool
  | .str _ => true
  | _ => false
def isTupD : PyData → Bool
  | .tuple _ => true
  | _ => false
def tyNames : List String := ["NoneType", "bool", "int", "str", "list", "tuple", "dict"]
theorem tyD_mem (d : PyData) : tyD d ∈ tyNames := by
  cases d <;> simp [tyD, tyNames]
theorem kit7_int : ∀ T ∈ tyNames, kitB T "int" = some (T == "int" || T == "bool") := by decide +kernel
theorem kit7_bool : ∀ T ∈ tyNames, kitB T "bool" = some (T == "bool") := by decide +kernel
theorem kit7_str : ∀ T ∈ tyNames, kitB T "str" = some (T == "str") := by decide +kernel
theorem kit7_tup : ∀ T ∈ tyNames, kitB T "tuple" = some (T == "tuple") := by decide +kernel
theorem kit7_list : ∀ T ∈ tyNames, kitB T "list" = some (T == "list") := by decide +kernel
theorem kit7_dict : ∀ T ∈ tyNames, kitB T "dict" = some (T == "dict") := by decide +kernel
theorem kitD_int {d : PyData} (h : noDict d = true) : kitB (tyD d) "int" = some (isIntD d) := by
  rw [kit7_int _ (tyD_mem d)]
  cases d <;> rfl
theorem kitD_bool {d : PyData} (h : noDict d = true) : kitB (tyD d) "bool" = some (isBoolD d) := by
  rw [kit7_bool _ (tyD_mem d)]
  cases d <;> rfl
theorem kitD_str {d : PyData} (h : noDict d = true) : kitB (tyD d) "str" = some (isStrD d) := by
  rw [kit7_str _ (tyD_mem d)]
  cases d <;> rfl
theorem kitD_tup {d : PyData} (h : noDict d = true) : kitB (tyD d) "tuple" = some (isTupD d) := by
  rw [kit7_tup _ (tyD_mem d)]
  cases d <;> rfl

/-! ### menus: an item of a written list at a drawn place -/
theorem menu {xs : List V} {n : Nat} {d : Int} (P : V → Prop) (hn : xs.length = n) (h0 : 0 ≤ d) (h1 : d < n) (all : ∀ v ∈ xs, P v) : ∃ v, atI xs d = some v ∧ P v := by
  obtain ⟨j, rfl⟩ : ∃ j : Nat, d = (j : Int) := ⟨d.toNat, by omega⟩
  have hj : j < xs.length := by omega
  exact ⟨xs[j], atI_nat (List.getElem?_eq_getElem hj), all _ (List.getElem_mem hj)⟩
theorem Dt.int {K : PySem.W.Frag} {H : Hp} (i : Int) : Dt K H (.int i) (.int i) := ⟨.int i, rfl⟩
theorem Dt.bl {K : PySem.W.Frag} {H : Hp} (i : Bool) : Dt K H (.bl i) (.bool i) := ⟨.bl i, rfl⟩
theorem Dt.non {K : PySem.W.Frag} {H : Hp} : Dt K H .non .none := ⟨.non, rfl⟩
theorem Dt.str {K : PySem.W.Frag} {H : Hp} {z : Str} (h : TxOk z) : Dt K H (.str z) (.str z) := ⟨.str z, by
  unfold SeqAt.shaped
  have e : PyData.canLay0 (.str z) = true := strOk_of h.ok
  rw [e]
  rfl⟩
theorem shaped_parts {d : PyData} (h : SeqAt.shaped d = true) : d.canLay0 = true ∧ d.depth ≤ 64 := ⟨SeqAt.canLay_of_shaped h, SeqAt.depth_of_shaped h⟩
/-- data of some depth -/
structure Dd (n : Nat) (d : PyData) : Prop where
  lay : d.canLay0 = true
  dep : d.depth ≤ n
theorem Dd.sh {n : Nat} {d : PyData} (h : Dd n d) (hn : n ≤ 64) : SeqAt.shaped d = true := by
  unfold SeqAt.shaped
  rw [h.lay, decide_eq_true (Nat.le_trans h.dep hn)]
  rfl
theorem Dd.list {n : Nat} {ds : List PyData} (h : ∀ d ∈ ds, Dd n d) : Dd (n + 1) (.list ds) := by
  constructor
  · show PyData.canLayAll0 ds = true
    induction ds with
    | nil => rfl
    | cons x r ih =>
      show (x.canLay0 && PyData.canLayAll0 r) = true
      rw [(h x (List.mem_cons_self ..)).lay, ih fun y hy => h y (List.mem_cons_of_mem _ hy)]
      rfl
  · rw [PyData.depth]
    have e : PyData.depthAll ds ≤ n := by
      induction ds with
      | nil => simp [PyData.depthAll]
      | cons x r ih =>
        rw [PyData.depthAll]
        exact Nat.max_le.mpr ⟨(h x (List.mem_cons_self ..)).dep, ih fun y hy => h y (List.mem_cons_of_mem _ hy)⟩
    omega
theorem Dd.tuple {n : Nat} {ds : List PyData} (h : ∀ d ∈ ds, Dd n d) : Dd (n + 1) (.tuple ds) := by
  have q := Dd.list h
  exact ⟨q.lay, by have := q.dep; simp only [PyData.depth] at this ⊢; exact this⟩
theorem Dd.int (i : Int) : Dd 0 (.int i) := ⟨rfl, by simp [PyData.depth]⟩
theorem Dd.str {z : Str} (h : TxOk z) : Dd 0 (.str z) := ⟨strOk_of h.ok, by simp [PyData.depth]⟩
theorem Dd.none : Dd 0 .none := ⟨rfl, by simp [PyData.depth]⟩
theorem Dd.bool (b : Bool) : Dd 0 (.bool b) := ⟨rfl, by simp [PyData.depth]⟩
theorem Dd.mono {n m : Nat} {d : PyData} (h : Dd n d) (k : n ≤ m) : Dd m d := ⟨h.lay, Nat.le_trans h.dep k⟩
end U

set_option Elab.async false
set_option linter.all false
set_option maxRecDepth 100000
set_option maxHeartbeats 4000000
/-! Text += text; isinstance of own classes; small facts of texts. -/
namespace U
open PySem PySem.Spec PyProof.Rows L2
theorem iteE {c : Bool} {A B : Prop} (h : c = false) (b : B) : if c = true then A else B := by
  rw [h]
  exact iteF b
abbrev ipS : TIp := rAddS
theorem ip_addS {X : Cx} : PIp X .Add ipS := iop_add_str
/-- what isinstance asks of an own class -/
structure InsK (K : PySem.W.Frag) (C : Addr) : Prop where
  cl : Cls K C
  ha : PySem.W.findIn K (.ref C) "__class__" = some (some (.builtin "object.__class__"))
  hn : PySem.W.specialIn K (.builtin "object.__class__") "__get__" = some (some (.builtin "getset_descriptor.__get__"))
  htk : PySem.W.takesIn K (.builtin "object.__class__") = some true
  hm : PySem.W.mroIn K C (.type "object") = some true
  kit : PySem.W.kitOne K (.ref C) (.ref C) = some true
def insB (K : PySem.W.Frag) (x : Str) : Bool := (He.Fa.cls x).ok K && (He.eqO (PySem.W.findIn K (.ref (He.ga K x)) "__class__") (some (some (.builtin "object.__class__"))) &&
  (He.eqO (PySem.W.specialIn K (.builtin "object.__class__") "__get__") (some (some (.builtin "getset_descriptor.__get__"))) && (decide (PySem.W.takesIn K (.builtin "object.__class__") = some true) &&
  (decide (PySem.W.mroIn K (He.ga K x) (.type "object") = some true) && decide (PySem.W.kitOne K (.ref (He.ga K x)) (.ref (He.ga K x)) = some true)))))
theorem insB_ok {K : PySem.W.Frag} {x : Str} (h : insB K x = true) : InsK K (He.ga K x) := by
  obtain ⟨h1, h⟩ := He.ba h
  obtain ⟨h2, h⟩ := He.ba h
  obtain ⟨h3, h⟩ := He.ba h
  obtain ⟨h4, h⟩ := He.ba h
  obtain ⟨h5, h6⟩ := He.ba h
  exact ⟨He.cls_ok h1, He.eqO_ok h2, He.eqO_ok h3, of_decide_eq_true h4, of_decide_eq_true h5, of_decide_eq_true h6⟩
theorem InsK.ty {K : PySem.W.Frag} {C : Addr} (h : InsK K C) {H : Hp} {a dx : Addr} {fs : List (Str × V)} (e : H a = some (.ins C dx fs)) : TyX K H (.ref a) (.ref C) := .base (.ins e h.cl h.ha h.hn h.htk h.hm)
theorem lit_ok {z : Str} (h : z.length ≤ 100000 ∧ ∀ c ∈ z.cps.toList, c < 1114112) : TxOk z := ⟨h.1, h.2⟩
theorem str_beq (a x : Str) : (a == x) = decide (x = a) := by
  by_cases h : x = a
  · rw [decide_eq_true h, h]
    exact beq_self_eq_true a
  · rw [decide_eq_false h]
    exact beq_eq_false_iff_ne.mpr fun e => h e.symm
theorem str_eq_nil {z : Str} : z = "" ↔ z.length = 0 := ⟨fun e => by rw [e]; rfl, fun e => by
  obtain ⟨a⟩ := z
  have e1 : a.size = 0 := e
  have e2 : a = #[] := Array.eq_empty_of_size_eq_zero e1
  rw [e2]
  rfl⟩
theorem partition_len (z y : Str) : (Txt.partition z y).1.length ≤ z.length ∧ (Txt.partition z y).2.1.length ≤ z.length ∧ (Txt.partition z y).2.2.length ≤ z.length := PyProof.Rows.fact_partition z y
theorem partition_ok {z : Str} (h : TxOk z) (y : Str) : TxOk (Txt.partition z y).1 ∧ TxOk (Txt.partition z y).2.1 ∧ TxOk (Txt.partition z y).2.2 := by
  have hl := partition_len z y
  have hs := PySem.StrLaws.partition_sum z y
  have hm : ∀ c, c ∈ (Txt.partition z y).1.cps.toList ∨ c ∈ (Txt.partition z y).2.1.cps.toList ∨ c ∈ (Txt.partition z y).2.2.cps.toList → c ∈ z.cps.toList := fun c hc => by
    rw [← hs, str_cat_toList, str_cat_toList, List.mem_append, List.mem_append]
    rcases hc with h | h | h
    · exact .inl (.inl h)
    · exact .inl (.inr h)
    · exact .inr h
  exact ⟨⟨Nat.le_trans hl.1 h.1, fun c hc => h.2 c (hm c (.inl hc))⟩, ⟨Nat.le_trans hl.2.1 h.1, fun c hc => h.2 c (hm c (.inr (.inl hc)))⟩, ⟨Nat.le_trans hl.2.2 h.1, fun c hc => h.2 c (hm c (.inr (.inr hc)))⟩⟩
def optV : Option Int → V
  | none => .non
  | some n => .int n
theorem flat_opt (o : Option Int) : flatV (optV o) = true := by cases o <;> rfl
/-- list(d.keys()) -/
abbrev rListKV : RC := fun xs H Q => ∃ (a d : Addr) (kvs : List (Key × V)), xs = [.ref a] ∧ H a = some (KeysO a d) ∧ Rd H d (.dK kvs) ∧ ∀ p, H p = none → Q (.ref p) (upd H p (.lst (kvs.map fun kv => kV kv.1)))
theorem call_listKV {X : Cx} (hcalm : X.calm = true) : CallR X (.type "list") rListKV := by
  intro pins s σ H xs us Q I r q
  obtain ⟨a, d, kvs, ex, ha, hd, q⟩ := q
  subst ex
  obtain ⟨u, eu, rx⟩ := vals1 r
  subst eu
  cases rx
  obtain ⟨z, lo, vs, rel, dd⟩ := dk_rd I.hok hd
  obtain ⟨ep, hat⟩ := dd.dictAt
  obtain ⟨view, _, _⟩ := (show ObjOk X.prog X.w H s.heap a (KeysO a d) from I.hok a _ ha)
  have ek : (kvs.map fun kv => kV kv.1) = vs.map fun p => kV p.1 := by
    have e := congrArg (List.map kV) rel.keys
    rw [List.map_map, List.map_map] at e
    exact e
  refine PySem.W.kdl_call (PySem.W.kdl_keys (r := a) (d := d) (knd := mixKind X.prog X.w) (kvs := vs) (ep := ep)) (I.ok.hd hcalm) ⟨view, hat⟩ (by rw [← rel.length]; exact z) fun h' tk acc c' hk hD hacc => ?_
  have hv : Vals (vs.map fun p => kV p.1) acc.toList := keys_at (by rw [Array.length_toList]; exact hacc.1) fun j v e => hacc.2 j v (by rw [← Array.getElem?_toList]; exact e)
  refine ⟨.ref s.heap.objs.size, upd H s.heap.objs.size (.lst (kvs.map fun kv => kV kv.1)), I.laid (t' := tk) hk (Nat.le_refl _)
    (show ObjOk X.prog X.w _ _ _ (.lst (kvs.map fun kv => kV kv.1)) from ⟨by rw [List.length_map]; exact z, acc.toList, c', by rw [ek]; exact hv, by rw [Array.toArray_toList]; exact hD⟩), rfl, q _ (I.hok.fresh (Nat.le_refl _))⟩
/-- a comprehension over a dict's keys -/
theorem lck_fm {tt : TT} {te : TE} {σ : L2.St} {H1 : Hp} {D : Addr} {Q : Hp → Prop} {j : Nat} {d : Addr} {o : Obj} {kvs : List (Key × V)} (p : Key × V → Bool) (f : Key × V → V) (hd0 : H1 d = some (.frz o (.dK kvs))) (hD : H1 D = none) (hx : kvs.length ≤ 1000000)
    (ht : ∀ kv acc (R : Bool → Hp → Prop), kv ∈ kvs → R (p kv) (upd H1 D (.lst acc)) → tt ((wipe σ [j]).set j (some (kV kv.1))) (upd H1 D (.lst acc)) R)
    (he : ∀ kv acc (R : VK), kv ∈ kvs → p kv = true → R (f kv) (upd H1 D (.lst acc)) → te ((wipe σ [j]).set j (some (kV kv.1))) (upd H1 D (.lst acc)) R)
    (hd : Q (upd H1 D (.lst ((kvs.filter p).map f)))) :
    ∃ W : Nat → Nat → Hp → Prop, (∃ m, W 0 m (upd H1 D (.lst []))) ∧ ∀ i m H, W i m H →
      ((Itk d o kvs).stop i H ∧ Q H) ∨ ((Itk d o kvs).go i H ∧ ∃ Nx : Hp → Prop, (∀ H', Nx H' → ∃ m', m' < m ∧ W (i + 1) m' H') ∧ ∀ y H', (Itk d o kvs).yld i H y H' → gName j y (wipe σ [j]) H' fun σ2 H2 => wipe σ2 [j] = wipe σ [j] ∧ tt σ2 H2 fun b H3 =>
        if b = true then te σ2 H3 fun y H4 => ∃ acc, H4 D = some (.lst acc) ∧ acc.length < sizeLine ∧ Nx (upd H4 D (.lst (acc ++ [y]))) else Nx H3) := by
  refine ⟨fun i m H => m = kvs.length - i ∧ i ≤ kvs.length ∧ H = upd H1 D (.lst (((kvs.take i).filter p).map f)), ⟨kvs.length, by simp, Nat.zero_le _, by simp⟩, ?_⟩
  rintro i m H ⟨rfl, hi, rfl⟩
  have hfz : (upd H1 D (.lst (((kvs.take i).filter p).map f))) d = some (.frz o (.dK kvs)) := by
    rw [upd_ne (ne_of_none hd0 hD)]
    exact hd0
  by_cases hlt : i < kvs.length
  · refine .inr ⟨⟨hfz, hlt⟩, fun H' => H' = upd H1 D (.lst (((kvs.take (i + 1)).filter p).map f)), fun H' p' => ⟨kvs.length - (i + 1), by omega, rfl, hlt, p'⟩, fun y H' z => ?_⟩
    obtain ⟨e, k, v, hk, rfl⟩ := z
    subst e
    have hm : (k, v) ∈ kvs := List.mem_of_getElem? hk
    refine ⟨wipe1, ht (k, v) _ _ hm ?_⟩
    have hlen : (((kvs.take i).filter p).map f).length < sizeLine := by
      rw [List.length_map, sizeLine_eq]
      have h1 := List.length_filter_le p (kvs.take i)
      rw [List.length_take] at h1
      omega
    by_cases hp : p (k, v) = true
    · rw [hp]
      refine iteT (he (k, v) _ _ hm hp ⟨_, upd_same, hlen, ?_⟩)
      rw [upd_upd, take_snoc hk, List.filter_append, List.map_append]
      simp [hp]
    · have hp' : p (k, v) = false := by simpa using hp
      rw [hp']
      refine iteF ?_
      rw [take_snoc hk, List.filter_append, List.map_append]
      simp [hp']
  · have e : i = kvs.length := by omega
    subst e
    refine .inl ⟨⟨hfz, Nat.le_refl _⟩, ?_⟩
    rw [List.take_length]
    exact hd
/-- a comprehension over a list whose element may lay new things -/
theorem lcl_s {K : PySem.W.Frag} {te : TE} {σ : L2.St} {H1 : Hp} {D : Addr} {Q : Hp → Prop} {j : Nat} {a : Addr} {xs : List V} (f : V → V) (hs : SqL K H1 a xs) (hD : H1 D = none) (hx : xs.length ≤ 1000000)
    (he : ∀ v H', v ∈ xs → Same H1 H' → ∀ R : VK, (∀ H'', Same H' H'' → R (f v) H'') → te ((wipe σ [j]).set j (some v)) H' R)
    (hd : ∀ H', Same H1 H' → H' D = some (.lst (xs.map f)) → Q H') :
    ∃ W : Nat → Nat → Hp → Prop, (∃ m, W 0 m (upd H1 D (.lst []))) ∧ ∀ i m H, W i m H →
      ((Itl K a).stop i H ∧ Q H) ∨ ((Itl K a).go i H ∧ ∃ Nx : Hp → Prop, (∀ H', Nx H' → ∃ m', m' < m ∧ W (i + 1) m' H') ∧ ∀ y H', (Itl K a).yld i H y H' → gName j y (wipe σ [j]) H' fun σ2 H2 => wipe σ2 [j] = wipe σ [j] ∧ tYes σ2 H2 fun b H3 =>
        if b = true then te σ2 H3 fun y H4 => ∃ acc, H4 D = some (.lst acc) ∧ acc.length < sizeLine ∧ Nx (upd H4 D (.lst (acc ++ [y]))) else Nx H3) := by
  refine lc_list (g := gName j) (vs := [j]) (xs := xs) (fun i H => Same H1 H ∧ H D = some (.lst ((xs.take i).map f))) ⟨same_new hD, by rw [upd_same]; simp⟩ (fun i H _ e => e.1.seq hs) (fun i c H hc e => ?_) (fun H e => ?_)
  · obtain ⟨s1, hl⟩ := e
    refine ⟨wipe1, he c H (List.mem_of_getElem? hc) s1 _ fun H4 s4 => ⟨_, s4 _ _ hl, ?_, ?_, ?_⟩⟩
    · rw [List.length_map, List.length_take, sizeLine_eq]
      omega
    · exact U.Same.mut (s1.trans s4) hD
    · rw [upd_same, take_snoc hc, List.map_append]
      rfl
  · refine hd H e.1 ?_
    rw [e.2, List.take_length]
/-- what is told of some error classes -/
structure ErrL (l : List Str) (K : PySem.W.Frag) : Prop where
  exc : ∀ x ∈ l, ExcC K (He.ga K x)
  exm : ∀ x ∈ l, PySem.W.exmOne K (.ref (He.ga K x)) (.ref (He.ga K "HallError")) = some true
  kit : ∀ x ∈ l, ∀ y ∈ l, PySem.W.kitOne K (.ref (He.ga K x)) (.ref (He.ga K y)) = some (decide (x = y))
  kitH : ∀ x ∈ l, PySem.W.kitOne K (.ref (He.ga K x)) (.ref (He.ga K "HallError")) = some true
  kitV : ∀ x ∈ l, PySem.W.kitOne K (.ref (He.ga K x)) (.type "ValueError") = some true
def errLB (l : List Str) (K : PySem.W.Frag) : Bool := l.all fun x => excB K (He.ga K x) && (decide (PySem.W.exmOne K (.ref (He.ga K x)) (.ref (He.ga K "HallError")) = some true) &&
  ((l.all fun y => decide (PySem.W.kitOne K (.ref (He.ga K x)) (.ref (He.ga K y)) = some (decide (x = y)))) && (decide (PySem.W.kitOne K (.ref (He.ga K x)) (.ref (He.ga K "HallError")) = some true) && decide (PySem.W.kitOne K (.ref (He.ga K x)) (.type "ValueError") = some true))))
theorem errLB_ok {l : List Str} {K : PySem.W.Frag} (h : errLB l K = true) : ErrL l K := by
  have h1 := List.all_eq_true.mp h
  refine ⟨fun x hx => excB_ok (He.ba (h1 x hx)).1, fun x hx => of_decide_eq_true (He.ba (He.ba (h1 x hx)).2).1, fun x hx y hy => ?_, fun x hx => ?_, fun x hx => ?_⟩
  · exact of_decide_eq_true (List.all_eq_true.mp (He.ba (He.ba (He.ba (h1 x hx)).2).2).1 y hy)
  · exact of_decide_eq_true (He.ba (He.ba (He.ba (He.ba (h1 x hx)).2).2).2).1
  · exact of_decide_eq_true (He.ba (He.ba (He.ba (He.ba (h1 x hx)).2).2).2).2
end U

set_option Elab.async false
set_option linter.all false
set_option maxRecDepth 100000
set_option maxHeartbeats 4000000
/-! Promises: is_name, People. -/
namespace G
open PySem PySem.Spec PyProof.Rows L2 U

/-- is_name(thing) -/
def sp_is_name (K : PySem.W.Frag) : Sp := fun vs H Q _ => match vs with
  | [v] => Kn K H v ∧ ∀ H', Same H H' → Q (.bl (isNm v)) H'
  | _ => False

/-! ### People -/
/-- the people of a house: names with their numbers, numbers with their names, how many numbers were given -/
structure Ppl where
  nm : List (Str × Int)
  nu : List (Int × Str)
  many : Nat
def nmD (l : List (Str × Int)) : List (Key × V) := l.map fun q => (Sum.inr q.1, V.int q.2)
def nuD (l : List (Int × Str)) : List (Key × V) := l.map fun q => (Sum.inl q.1, V.str q.2)
def fPpl (d1 d2 : Addr) (n : Int) : List (Str × V) := [("by_name", .ref d1), ("by_number", .ref d2), ("many", .int n)]
structure PplAt (K : PySem.W.Frag) (H : Hp) (p d1 d2 : Addr) (S : Ppl) : Prop where
  ob : ∃ dx, H p = some (.ins (He.ga K "People") dx (fPpl d1 d2 S.many))
  h1 : H d1 = some (.dK (nmD S.nm))
  h2 : H d2 = some (.dK (nuD S.nu))
  ne : d1 ≠ d2
  l1 : S.nm.length ≤ 1000
  l2 : S.nu.length ≤ 1000
  lt : ∀ q ∈ S.nu, q.1 ≤ S.many
def Ppl.look (S : Ppl) (x : Str) : Option Int := S.nm.lookup x
def Ppl.name (S : Ppl) (n : Int) : Option Str := S.nu.lookup n
/-- a name comes -/
def Ppl.come (S : Ppl) (x : Str) : Ppl := match S.look x with
  | some _ => S
  | none => ⟨S.nm ++ [(x, (S.many : Int) + 1)], S.nu ++ [((S.many : Int) + 1, x)], S.many + 1⟩
def Ppl.num (S : Ppl) (x : Str) : Int := match S.look x with
  | some n => n
  | none => (S.many : Int) + 1

def sp_People___init__ (K : PySem.W.Frag) : Sp := fun vs H Q _ => match vs with
  | [.ref p] => ∃ dx, H p = some (.ins (He.ga K "People") dx []) ∧ ∀ d1 d2 H', PplAt K H' p d1 d2 ⟨[], [], 0⟩ → H d1 = none → H d2 = none → Keep [p] H H' → Q .non H'
  | _ => False
def sp_People_known (K : PySem.W.Frag) : Sp := fun vs H Q _ => match vs with
  | [.ref p, v] => ∃ d1 d2 S, PplAt K H p d1 d2 S ∧ Kn K H v ∧ (isNm v = false → ∀ H', Same H H' → Q .non H') ∧ (∀ x, v = .str x → isNm v = true → ∀ H', Same H H' → Q (((S.look x).map V.int).getD .non) H')
  | _ => False
def sp_People_number_of (K : PySem.W.Frag) : Sp := fun vs H Q E => match vs with
  | [.ref p, v] => ∃ d1 d2 S, PplAt K H p d1 d2 S ∧ S.nm.length < 1000 ∧ S.nu.length < 1000 ∧ Kn K H v ∧ (isNm v = false → ∀ H', Same H H' → E (.ref (He.ga K "NoName")) none H') ∧
    (∀ x, v = .str x → isNm v = true → ∀ H', PplAt K H' p d1 d2 (S.come x) → Keep [p, d1, d2] H H' → Q (.int (S.num x)) H')
  | _ => False
def sp_People_cut_off (K : PySem.W.Frag) : Sp := fun vs H Q E => match vs with
  | [.ref p, v] => ∃ d1 d2 S, PplAt K H p d1 d2 S ∧ Kn K H v ∧ (isNm v = false → ∀ H', Same H H' → E (.ref (He.ga K "NoPerson")) none H') ∧
    (∀ x, v = .str x → isNm v = true → S.look x = none → ∀ H', Same H H' → E (.ref (He.ga K "NoPerson")) none H') ∧
    (∀ x n, v = .str x → isNm v = true → S.look x = some n → ∀ H', PplAt K H' p d1 d2 ⟨S.nm.filter (fun q => decide (q.1 ≠ x)), S.nu, S.many⟩ → Keep [d1] H H' → Q (.int n) H')
  | _ => False
def sp_People_name_of (K : PySem.W.Frag) : Sp := fun vs H Q _ => match vs with
  | [.ref p, .int n] => ∃ d1 d2 S, PplAt K H p d1 d2 S ∧ Q (((S.name n).map V.str).getD .non) H
  | _ => False
def sp_People_numbers (K : PySem.W.Frag) : Sp := fun vs H Q _ => match vs with
  | [.ref p] => ∃ d1 d2 S, PplAt K H p d1 d2 S ∧ S.nu.length < 64 ∧ ∀ (ys : List Int) H' a, ys.Perm (S.nu.map (·.1)) → ys.Pairwise (· ≤ ·) → H a = none → Same H H' → H' a = some (.lst (ys.map V.int)) → Q (.ref a) H'
  | _ => False
end G

set_option Elab.async false
set_option linter.all false
set_option maxRecDepth 100000
set_option maxHeartbeats 4000000

/-! Readings, printed by gen.py. -/
namespace G
open PySem PySem.Spec PyProof.Rows L2 U
abbrev N_is_name : List Str := ["thing", "letter"]
def t_is_name (K : PySem.W.Frag) : TS :=
  (tSeq (tIfS (tOr (tNot (tB (tCB (rIsi K) (tCons (tVar 0) (tCons (tC (.ty "str")) tNil))))) (tOr (tTest (tOp rEq (tVar 0) (tC (.str "")))) (tTest (tOp rGtI (tCB rLenStr (tCons (tVar 0) tNil)) (tC (.int 8)))))) (tRet (tC (.bl false))) tNext)
  (tRet (tCB (rAll K) (tCons (tLc (iStr (tVar 0)) (gName 1) tYes (tOp rInSg (tVar 1) (tC (.str "abcdefghijklmnopqrstuvwxyz"))) [1]) tNil))))
abbrev N_People_known : List Str := ["self", "name"]
def t_People_known (K : PySem.W.Frag) : TS :=
  (tSeq (tIfS (tNot (tB (tCl (sp_is_name K) [] ES0 (tCons (tVar 1) tNil)))) (tRet (tC .non)) tNext)
  (tRet (tDGet1 (tFd (He.ga K "People") (tVar 0) "by_name") (tVar 1))))
abbrev N_People_name_of : List Str := ["self", "number"]
def t_People_name_of (K : PySem.W.Frag) : TS :=
  (tRet (tDGet1 (tFd (He.ga K "People") (tVar 0) "by_number") (tVar 1)))
abbrev N_People_number_of : List Str := ["self", "name"]
def t_People_number_of (K : PySem.W.Frag) (W : WX) : TS :=
  (tSeq (tIfS (tNot (tB (tCl (sp_is_name K) [] ES0 (tCons (tVar 1) tNil)))) (tRs (He.ga K "NoName") W) tNext)
  (tSeq (tIfS (tB (tDNotIn (tVar 1) (tFd (He.ga K "People") (tVar 0) "by_name"))) (tSeq (sFdAdd (He.ga K "People") (tVar 0) (tC (.int 1)) "many")
  (tSeq (sDPut (tFd (He.ga K "People") (tVar 0) "by_name") (tVar 1) (tFd (He.ga K "People") (tVar 0) "many"))
  (sDPut (tFd (He.ga K "People") (tVar 0) "by_number") (tFd (He.ga K "People") (tVar 0) "many") (tVar 1)))) tNext)
  (tRet (tDGet (tFd (He.ga K "People") (tVar 0) "by_name") (tVar 1)))))
abbrev N_People_numbers : List Str := ["self"]
def t_People_numbers (K : PySem.W.Frag) : TS :=
  (tRet (tCB rSortedKV (tCons (tKeysV (tFd (He.ga K "People") (tVar 0) "by_number")) tNil)))
abbrev N_People___init__ : List Str := ["self"]
def t_People___init__ (K : PySem.W.Frag) : TS :=
  (tSeq (sFd (He.ga K "People") (tVar 0) tDNewK "by_name")
  (tSeq (sFd (He.ga K "People") (tVar 0) tDNewK "by_number")
  (sFd (He.ga K "People") (tVar 0) (tC (.int 0)) "many")))
abbrev N_People_cut_off : List Str := ["self", "name", "number"]
def t_People_cut_off (K : PySem.W.Frag) (W : WX) : TS :=
  (tSeq (tAsg (tMt (He.ga K "People") "known" (sp_People_known K) [] ES0 (tVar 0) (tCons (tVar 1) tNil)) (gName 2))
  (tSeq (tIfS (tTest (tOp rIsNn (tVar 2) (tC .non))) (tRs (He.ga K "NoPerson") W) tNext)
  (tSeq (tDrop (tDPop1 (tFd (He.ga K "People") (tVar 0) "by_name") (tVar 1)))
  (tRet (tVar 2)))))
end G

set_option Elab.async false
set_option linter.all false
set_option maxRecDepth 100000
set_option maxHeartbeats 4000000
/-! The readings of is_name and of People keep their promises. -/
namespace G
open PySem PySem.Spec PyProof.Rows L2 U
variable {K : PySem.W.Frag}

theorem pure_is_name (vs : List V) (H : Hp) (Q : VK) (E : XK) (h : sp_is_name K vs H Q E) : t_is_name K { nx := fun _ H' => Q .non H', rt := Q } (start N_is_name vs) H := by
  unfold sp_is_name at h
  split at h
  · rename_i v
    obtain ⟨kn, k⟩ := h
    obtain ⟨T, ty, kt⟩ := kn.isS K
    refine ⟨v, rfl, v, _, _, _, _, rfl, .ty "str", ty, kt, _, rfl, ?_⟩
    cases hs : isStrV v
    rotate_left
    · obtain ⟨z, rfl⟩ := isStrV_str hs
      refine iteF ?_
      refine ⟨_, rfl, rfl, _, rfl, ?_⟩
      by_cases h0 : z = ""
      · subst h0
        refine iteT (iteT ?_)
        exact k H (Same.refl H)
      · have e0 : decide (V.str z = V.str "") = false := decide_eq_false (fun e => h0 (V.str.inj e))
        rw [e0]
        refine iteF ?_
        refine ⟨_, rfl, z, rfl, Nat.le_trans kn.tx.len (by decide), _, _, rfl, rfl, _, rfl, ?_⟩
        have hz : z.length ≠ 0 := fun e => h0 (by
          obtain ⟨a⟩ := z
          have e1 : a.size = 0 := e
          have e2 : a = #[] := Array.eq_empty_of_size_eq_zero e1
          rw [e2]
          rfl)
        by_cases h8 : (8 : Int) < z.length
        · refine ite2 (fun _ => ?_) (fun n => absurd (decide_eq_true h8) n)
          have e1 : isNm (V.str z) = false := by
            show isNmS z = false
            unfold isNmS
            rw [decide_eq_false (show ¬ z.length ≤ 8 by omega)]
            simp
          have e2 := k H (Same.refl H)
          rw [e1] at e2
          exact e2
        · refine ite2 (fun n => absurd (of_decide_eq_true n) h8) (fun _ => ?_)
          refine ⟨_, rfl, z, rfl, fun D hD => ?_⟩
          refine lcs_m (fun c => V.bl (decide (c ∈ abc.cps.toList))) (show z.length ≤ 1000000 from Nat.le_trans kn.tx.len (by decide)) (fun c acc R _ r => ?_) ?_
          · exact ⟨_, rfl, c, _, rfl, rfl, r⟩
          · refine ⟨D, z.cps.toList.map (fun c => decide (c ∈ abc.cps.toList)), rfl, ?_, ?_⟩
            · refine SqL.of ?_
              rw [upd_same, List.map_map]
              rfl
            · have e2 := k (upd H D (.lst (List.map (fun c => V.bl (decide (c ∈ abc.cps.toList))) z.cps.toList))) (same_new hD)
              have e1 : isNm (V.str z) = (z.cps.toList.map (fun c => decide (c ∈ abc.cps.toList))).all id := by
                show isNmS z = _
                unfold isNmS
                rw [decide_eq_true (show 1 ≤ z.length by omega), decide_eq_true (show z.length ≤ 8 by omega)]
                simp [List.all_map, Function.comp_def]
              rw [e1] at e2
              exact e2
    · refine iteT (iteT ?_)
      have e1 : isNm v = false := isNm_notStr hs
      have e2 := k H (Same.refl H)
      rw [e1] at e2
      exact e2
  · exact h.elim

/-! ### fields -/
theorem fP_name {d1 d2 : Addr} {n : Int} : List.lookup ("by_name" : Str) (fPpl d1 d2 n) = some (V.ref d1) := by rfl
theorem fP_number {d1 d2 : Addr} {n : Int} : List.lookup ("by_number" : Str) (fPpl d1 d2 n) = some (V.ref d2) := by rfl
theorem fP_many {d1 d2 : Addr} {n : Int} : List.lookup ("many" : Str) (fPpl d1 d2 n) = some (V.int n) := by rfl
theorem fP_put {d1 d2 : Addr} {n m : Int} : putF "many" (.int m) (fPpl d1 d2 n) = fPpl d1 d2 m := by rfl

/-! ### the dicts -/
theorem nmD_val : ∀ (l : List (Str × Int)) (x : Str), valV (nmD l) (Sum.inr x) = (l.lookup x).map V.int
  | [], x => rfl
  | (y, n) :: r, x => by
    show ((((Sum.inr y : Key), V.int n) :: nmD r).find? fun kv => decide (kv.1 = Sum.inr x)).map (·.2) = _
    rw [List.find?_cons, List.lookup_cons]
    by_cases e : y = x
    · subst e
      simp
    · have e1 : decide ((Sum.inr y : Key) = Sum.inr x) = false := decide_eq_false (fun z => e (Sum.inr.inj z))
      have e2 : (x == y) = false := beq_eq_false_iff_ne.mpr (fun z => e z.symm)
      simp only [e1, e2]
      exact nmD_val r x
theorem nuD_val : ∀ (l : List (Int × Str)) (x : Int), valV (nuD l) (Sum.inl x) = (l.lookup x).map V.str
  | [], x => rfl
  | (y, n) :: r, x => by
    show ((((Sum.inl y : Key), V.str n) :: nuD r).find? fun kv => decide (kv.1 = Sum.inl x)).map (·.2) = _
    rw [List.find?_cons, List.lookup_cons]
    by_cases e : y = x
    · subst e
      simp
    · have e1 : decide ((Sum.inl y : Key) = Sum.inl x) = false := decide_eq_false (fun z => e (Sum.inl.inj z))
      have e2 : (x == y) = false := beq_eq_false_iff_ne.mpr (fun z => e z.symm)
      simp only [e1, e2]
      exact nuD_val r x
theorem nmD_len (l : List (Str × Int)) : (nmD l).length = l.length := List.length_map _
theorem nuD_len (l : List (Int × Str)) : (nuD l).length = l.length := List.length_map _

theorem pure_People_known (vs : List V) (H : Hp) (Q : VK) (E : XK) (h : sp_People_known K vs H Q E) : t_People_known K { nx := fun _ H' => Q .non H', rt := Q } (start N_People_known vs) H := by
  unfold sp_People_known at h
  split at h
  · rename_i p v
    obtain ⟨d1, d2, S, P, kn, k1, k2⟩ := h
    obtain ⟨dx, hp⟩ := P.ob
    refine ⟨v, rfl, kn, fun H1 s1 => ⟨_, rfl, ?_⟩⟩
    cases hn : isNm v
    · exact iteT (k1 hn H1 s1)
    · obtain ⟨x, rfl⟩ := isNm_str hn
      refine iteF ?_
      refine ⟨_, rfl, p, dx, _, _, rfl, s1 _ _ hp, fP_name, d1, rfl, .inl ⟨_, .inl (s1 _ _ P.h1)⟩, _, rfl, _, DGet.k (k := Sum.inr x) (s1 _ _ P.h1), ?_⟩
      rw [nmD_val]
      exact k2 x rfl hn H1 s1
  · exact h.elim

theorem lookup_none_lt {l : List (Int × Str)} {m : Nat} (h : ∀ q ∈ l, q.1 ≤ (m : Int)) : l.lookup ((m : Int) + 1) = none := by
  induction l with
  | nil => rfl
  | cons q r ih =>
    rw [List.lookup_cons]
    have h1 := h q (List.mem_cons_self ..)
    have e : (((m : Int) + 1) == q.1) = false := beq_eq_false_iff_ne.mpr (by omega)
    rw [e]
    exact ih fun z hz => h z (List.mem_cons_of_mem _ hz)
theorem nm_put {l : List (Str × Int)} {x : Str} {n : Int} (h : l.lookup x = none) : putK (nmD l) (Sum.inr x) (V.int n) = nmD (l ++ [(x, n)]) := by
  rw [putK_new _ (by rw [nmD_val, h]; rfl)]
  unfold nmD
  rw [List.map_append]
  rfl
theorem nu_put {l : List (Int × Str)} {x : Str} {n : Int} (h : l.lookup n = none) : putK (nuD l) (Sum.inl n) (V.str x) = nuD (l ++ [(n, x)]) := by
  rw [putK_new _ (by rw [nuD_val, h]; rfl)]
  unfold nuD
  rw [List.map_append]
  rfl
theorem nm_drop (l : List (Str × Int)) (x : Str) : dropK (nmD l) (Sum.inr x) = nmD (l.filter fun q => decide (q.1 ≠ x)) := by
  unfold dropK nmD
  rw [List.filter_map]
  congr 1
  refine List.filter_congr fun q _ => ?_
  by_cases e : q.1 = x
  · simp [e]
  · simp [e]

theorem pure_People_number_of (vs : List V) (H : Hp) (Q : VK) (E : XK) (h : sp_People_number_of K vs H Q E) : t_People_number_of K (fun cls d _ H => E cls d H) { nx := fun _ H' => Q .non H', rt := Q } (start N_People_number_of vs) H := by
  unfold sp_People_number_of at h
  split at h
  · rename_i p v
    obtain ⟨d1, d2, S, P, l1, l2, kn, k1, k2⟩ := h
    obtain ⟨dx, hp⟩ := P.ob
    refine ⟨v, rfl, kn, fun H1 s1 => ⟨_, rfl, ?_⟩⟩
    cases hn : isNm v
    · exact iteT (k1 hn H1 s1)
    · obtain ⟨x, rfl⟩ := isNm_str hn
      refine iteF ?_
      have hp1 := s1 _ _ hp
      have a1 := s1 _ _ P.h1
      have a2 := s1 _ _ P.h2
      have np1 : p ≠ d1 := ne_of hp1 a1 (by intro q; cases q)
      have np2 : p ≠ d2 := ne_of hp1 a2 (by intro q; cases q)
      refine ⟨_, rfl, _, rfl, p, dx, _, _, rfl, hp1, fP_name, d1, _, rfl, DGet.k (k := Sum.inr x) a1, _, rfl, ?_⟩
      rw [nmD_val]
      have k3 := k2 x rfl hn
      unfold Ppl.come Ppl.num Ppl.look at k3
      cases hl : S.nm.lookup x with
      | some n =>
        rw [hl] at k3
        refine iteF ?_
        refine ⟨_, rfl, p, dx, _, _, rfl, hp1, fP_name, _, rfl, d1, V.int n, rfl, .inl ⟨_, Sum.inr x, .inl a1, rfl, by rw [nmD_val, hl]; rfl⟩, ?_⟩
        exact k3 H1 ⟨⟨dx, hp1⟩, a1, a2, P.ne, P.l1, P.l2, P.lt⟩ (.same s1)
      | none =>
        rw [hl] at k3
        refine iteT ?_
        refine ⟨_, rfl, p, dx, _, _, rfl, hp1, fP_many, _, dx, _, rfl, hp1, (by show 3 < 1000; decide), ?_⟩
        rw [fP_put]
        refine ⟨_, rfl, p, dx, _, _, rfl, upd_same, fP_many, _, rfl, p, dx, _, _, rfl, upd_same, fP_name, _, rfl, d1, _, rfl, DPut.k (k := Sum.inr x) (by rw [upd_ne np1.symm]; exact a1) (by rw [nmD_len, sizeLine_eq]; omega), ?_⟩
        rw [nm_put hl]
        refine ⟨_, rfl, _, rfl, p, dx, _, _, rfl, by rw [upd_ne np1, upd_same], fP_number, _, rfl, p, dx, _, _, rfl, by rw [upd_ne np1, upd_same], fP_many, d2, _, rfl,
          DPut.k (k := Sum.inl ((S.many : Int) + 1)) (by rw [upd_ne P.ne.symm, upd_ne np2.symm]; exact a2) (by rw [nuD_len, sizeLine_eq]; omega), ?_⟩
        rw [nu_put (lookup_none_lt P.lt)]
        refine ⟨_, rfl, p, dx, _, _, rfl, by rw [upd_ne np2, upd_ne np1, upd_same], fP_name, _, rfl, d1, V.int ((S.many : Int) + 1), rfl, .inl ⟨_, Sum.inr x, .inl (by rw [upd_ne P.ne, upd_same]), rfl, ?_⟩, ?_⟩
        · rw [nmD_val, List.lookup_append, hl]
          simp
        · refine k3 _ ⟨⟨dx, by rw [upd_ne np2, upd_ne np1, upd_same]; rfl⟩, by rw [upd_ne P.ne, upd_same], upd_same, P.ne, ?_, ?_, ?_⟩ ?_
          · show (S.nm ++ [(x, (S.many : Int) + 1)]).length ≤ 1000
            rw [List.length_append, List.length_singleton]
            omega
          · show (S.nu ++ [((S.many : Int) + 1, x)]).length ≤ 1000
            rw [List.length_append, List.length_singleton]
            omega
          · intro q hq
            rcases List.mem_append.mp hq with hq | hq
            · have := P.lt q hq
              show q.1 ≤ ((S.many + 1 : Nat) : Int)
              omega
            · rw [List.mem_singleton.mp hq]
              show (S.many : Int) + 1 ≤ ((S.many + 1 : Nat) : Int)
              omega
          · exact (((Keep.same s1).put (by simp)).put (by simp)).put (by simp)
  · exact h.elim

theorem pure_People_cut_off (vs : List V) (H : Hp) (Q : VK) (E : XK) (h : sp_People_cut_off K vs H Q E) : t_People_cut_off K (fun cls d _ H => E cls d H) { nx := fun _ H' => Q .non H', rt := Q } (start N_People_cut_off vs) H := by
  unfold sp_People_cut_off at h
  split at h
  · rename_i p v
    obtain ⟨d1, d2, S, P, kn, k1, k2, k3⟩ := h
    obtain ⟨dx, hp⟩ := P.ob
    refine ⟨_, rfl, p, dx, _, rfl, hp, (by rfl), _, rfl, d1, d2, S, P, kn, fun hn H1 s1 => ?_, fun x e hn H1 s1 => ?_⟩
    · exact ⟨_, rfl, rfl, _, rfl, iteT (k1 hn H1 s1)⟩
    · subst e
      cases hl : S.look x with
      | none => exact ⟨_, rfl, rfl, _, rfl, iteT (k2 x rfl hn hl H1 s1)⟩
      | some n =>
        refine ⟨_, rfl, rfl, _, rfl, iteF ?_⟩
        have hp1 := s1 _ _ hp
        have a1 := s1 _ _ P.h1
        have a2 := s1 _ _ P.h2
        refine ⟨_, rfl, p, dx, _, _, rfl, hp1, fP_name, d1, rfl, .inl ⟨_, .inl a1⟩, _, rfl, _, Sum.inr x, V.int n, a1, rfl, by rw [nmD_val]; show (S.look x).map V.int = _; rw [hl]; rfl, ?_⟩
        rw [nm_drop]
        refine ⟨_, rfl, k3 x n rfl hn hl _ ⟨⟨dx, ?_⟩, upd_same, ?_, P.ne, ?_, P.l2, P.lt⟩ ((Keep.same s1).put (by simp))⟩
        · rw [upd_ne (ne_of hp1 a1 (by intro q; cases q))]
          exact hp1
        · rw [upd_ne P.ne.symm]
          exact a2
        · exact Nat.le_trans (List.length_filter_le _ _) P.l1
  · exact h.elim

theorem pure_People_name_of (vs : List V) (H : Hp) (Q : VK) (E : XK) (h : sp_People_name_of K vs H Q E) : t_People_name_of K { nx := fun _ H' => Q .non H', rt := Q } (start N_People_name_of vs) H := by
  unfold sp_People_name_of at h
  split at h
  · rename_i p n
    obtain ⟨d1, d2, S, P, k⟩ := h
    obtain ⟨dx, hp⟩ := P.ob
    refine ⟨_, rfl, p, dx, _, _, rfl, hp, fP_number, d2, rfl, .inl ⟨_, .inl P.h2⟩, _, rfl, _, DGet.k (k := Sum.inl n) P.h2, ?_⟩
    rw [nuD_val]
    exact k
  · exact h.elim

theorem pure_People_numbers (vs : List V) (H : Hp) (Q : VK) (E : XK) (h : sp_People_numbers K vs H Q E) : t_People_numbers K { nx := fun _ H' => Q .non H', rt := Q } (start N_People_numbers vs) H := by
  unfold sp_People_numbers at h
  split at h
  · rename_i p
    obtain ⟨d1, d2, S, P, l, k⟩ := h
    obtain ⟨dx, hp⟩ := P.ob
    refine ⟨_, rfl, p, dx, _, _, rfl, hp, fP_number, d2, _, rfl, .inl P.h2, fun q hq => ?_⟩
    refine ⟨q, d2, _, S.nu.map (·.1), rfl, upd_same, .inl (by rw [upd_ne (ne_of_none P.h2 hq)]; exact P.h2), ?_, by rw [List.length_map]; exact l, fun ys a py sy ha => ?_⟩
    · unfold nuD
      rw [List.map_map, List.map_map]
      rfl
    · have ha0 : H a = none := (same_new hq).free ha
      exact k ys _ a py sy ha0 (U.Same.new (same_new hq) ha) upd_same
  · exact h.elim

theorem pure_People___init__ (vs : List V) (H : Hp) (Q : VK) (E : XK) (h : sp_People___init__ K vs H Q E) : t_People___init__ K { nx := fun _ H' => Q .non H', rt := Q } (start N_People___init__ vs) H := by
  unfold sp_People___init__ at h
  split at h
  · rename_i p
    obtain ⟨dx, hp, k⟩ := h
    intro d1 n1
    have np1 : p ≠ d1 := ne_of_none hp n1
    refine ⟨_, rfl, p, dx, _, rfl, by rw [upd_ne np1]; exact hp, (by show 0 < 1000; decide), ?_⟩
    intro d2 n2
    have nd : d1 ≠ d2 := fun e => by
      rw [← e, upd_ne np1.symm, upd_same] at n2
      cases n2
    have np2 : p ≠ d2 := fun e => by
      rw [← e, upd_same] at n2
      cases n2
    refine ⟨_, rfl, p, dx, _, rfl, by rw [upd_ne np2, upd_same], (by show 1 < 1000; decide), _, rfl, p, dx, _, rfl, upd_same, (by show 2 < 1000; decide), ?_⟩
    refine k d1 d2 _ ⟨⟨dx, by rw [upd_same]; rfl⟩, ?_, ?_, nd, Nat.zero_le _, Nat.zero_le _, fun q hq => by cases hq⟩ n1 ?_ ?_
    · rw [upd_ne np1.symm, upd_ne np1.symm, upd_ne nd, upd_ne np1.symm, upd_same]
      rfl
    · rw [upd_ne np2.symm, upd_ne np2.symm, upd_same]
      rfl
    · rw [upd_ne np2.symm, upd_ne nd.symm] at n2
      exact n2
    · have n20 : H d2 = none := by
        rw [upd_ne np2.symm, upd_ne nd.symm] at n2
        exact n2
      exact ((((Keep.refl.new n1).put (by simp)).new n20).put (by simp)).put (by simp)
  · exact h.elim
end G

set_option Elab.async false
set_option linter.all false
set_option maxRecDepth 100000
set_option maxHeartbeats 4000000
/-! Promises of what most laws have: pots and draws. -/
namespace G
open PySem PySem.Spec PyProof.Rows L2 U
/-- a pot stands at p -/
def PotAt (H : Hp) (p : Addr) : Prop := ∃ a b : Int, H p = some (.lst [.int a, .int b]) ∧ 0 ≤ a ∧ 0 ≤ b ∧ b < 2147483648
theorem PotAt.keep {l : List Addr} {H H' : Hp} {p : Addr} (h : PotAt H p) (k : Keep l H H') (n : p ∉ l) : PotAt H' p := by
  obtain ⟨a, b, e, r⟩ := h
  exact ⟨a, b, k.k _ _ e n, r⟩
def sp__law_draw (K : PySem.W.Frag) : Sp := fun vs H Q _ => match vs with
  | [.ref p, .int n] => PotAt H p ∧ 0 < n ∧ n ≤ 1000000000000000000000000000000000000000000000000000000000000 ∧ ∀ d H', 0 ≤ d → d < n → PotAt H' p → Keep [p] H H' → Q (.int d) H'
  | _ => False
/-- a word of one to eight letters -/
def isWd (z : Str) : Prop := 1 ≤ z.length ∧ z.length ≤ 8 ∧ ∀ c ∈ z.cps.toList, c ∈ abc.cps.toList
def sp__law_pot (K : PySem.W.Frag) : Sp := fun vs H Q _ => match vs with
  | [.int c] => ∀ p H', H p = none → PotAt H' p → Same H H' → Q (.ref p) H'
  | _ => False
def sp__law_word (K : PySem.W.Frag) : Sp := fun vs H Q _ => match vs with
  | [.ref p] => PotAt H p ∧ ∀ z H', isWd z → PotAt H' p → Keep [p] H H' → Q (.str z) H'
  | _ => False
def sp__law_is_name (K : PySem.W.Frag) : Sp := fun vs H Q _ => match vs with
  | [v] => Kn K H v ∧ ∀ H', Same H H' → Q (.bl (isNm v)) H'
  | _ => False
end G

set_option Elab.async false
set_option linter.all false
set_option maxRecDepth 100000
set_option maxHeartbeats 4000000

/-! Readings, printed by gen.py. -/
namespace G
open PySem PySem.Spec PyProof.Rows L2 U
abbrev N__law_is_name : List Str := ["_law_thing_here", "_law_sign"]
def t__law_is_name (K : PySem.W.Frag) : TS :=
  (tSeq (tIfS (tOr (tNot (tB (tCB (rIsi K) (tCons (tVar 0) (tCons (tC (.ty "str")) tNil))))) (tOr (tTest (tOp rLtI (tCB rLenStr (tCons (tVar 0) tNil)) (tC (.int 1)))) (tTest (tOp rGtI (tCB rLenStr (tCons (tVar 0) tNil)) (tC (.int 8)))))) (tRet (tC (.bl false))) tNext)
  (tRet (tOp (rEqD K) (tLc (iStr (tVar 0)) (gName 1) (tTest (tOp rNiSg (tVar 1) (tC (.str "abcdefghijklmnopqrstuvwxyz")))) (tVar 1) [1]) (tLst tNil))))
abbrev N__law_pot : List Str := ["_law_cell_here"]
def t__law_pot (K : PySem.W.Frag) : TS :=
  (tRet (tLst (tCons (tCB rMax2 (tCons (tC (.int 0)) (tCons (tOp rSubI (tCB rAbs (tCons (tVar 0) tNil)) (tOp rPowI (tC (.int 10)) (tC (.int 18)))) tNil))) (tCons (tOp rAddI (tOp rModI (tCB rAbs (tCons (tVar 0) tNil)) (tC (.int 2147483629))) (tC (.int 1))) tNil))))
abbrev N__law_draw : List Str := ["_law_pot_here", "_law_many", "_law_digit"]
def t__law_draw (K : PySem.W.Frag) : TS :=
  (tSeq (tIfS (tTest (tOp rGtI (tOp (rIxL K) (tVar 0) (tC (.int 0))) (tC (.int 0)))) (tSeq (tAsg (tCB rDivmod (tCons (tOp (rIxL K) (tVar 0) (tC (.int 0))) (tCons (tVar 1) tNil))) (gTup K 2 (gCons (gSub (tVar 0) (tC (.int 0)) rSetL) (gCons (gName 2) gNil))))
  (tRet (tVar 2))) tNext)
  (tSeq (tAsg (tOp rModI (tOp rAddI (tOp rMulI (tOp (rIxL K) (tVar 0) (tC (.int 1))) (tC (.int 48271))) (tC (.int 11))) (tC (.int 2147483647))) (gSub (tVar 0) (tC (.int 1)) rSetL))
  (tRet (tOp rModI (tOp rFdivI (tOp rModI (tOp rMulI (tOp (rIxL K) (tVar 0) (tC (.int 1))) (tOp (rIxL K) (tVar 0) (tC (.int 1)))) (tC (.int 2147483629))) (tC (.int 3))) (tVar 1)))))
abbrev N__law_word : List Str := ["_law_pot_here", "_law_k"]
def t__law_word (K : PySem.W.Frag) : TS :=
  (tRet (tM1 (mJoin K) (tC (.str "")) (tLc (iRng1 (tCons (tOp rAddI (tC (.int 1)) (tCl (sp__law_draw K) [] ES0 (tCons (tVar 0) (tCons (tC (.int 8)) tNil)))) tNil)) (gName 1) tYes (tOp rIxS (tC (.str "abcdefghijklmnopqrstuvwxyz")) (tCl (sp__law_draw K) [] ES0 (tCons (tVar 0) (tCons (tC (.int 26)) tNil)))) [1])))
end G

set_option Elab.async false
set_option linter.all false
set_option maxRecDepth 100000
set_option maxHeartbeats 4000000
namespace G
open PySem PySem.Spec PyProof.Rows L2 U
variable {K : PySem.W.Frag}

theorem pure__law_pot (vs : List V) (H : Hp) (Q : VK) (E : XK) (h : sp__law_pot K vs H Q E) : t__law_pot K { nx := fun _ H' => Q .non H', rt := Q } (start N__law_pot vs) H := by
  unfold sp__law_pot at h
  split at h
  · rename_i c
    refine ⟨_, rfl, c, rfl, _, _, rfl, rfl, ⟨by decide, by decide, by decide⟩, _, _, rfl, rfl, _, _, rfl, _, rfl, c, rfl, _, _, rfl, rfl, (by show (0 : Int) < 2147483629; decide), _, _, rfl, rfl, (by show 2 ≤ sizeLine; decide), fun p hp => ?_⟩
    refine h p _ hp ⟨_, _, upd_same, ?_, ?_, ?_⟩ (same_new hp)
    · split <;> omega
    · have := Int.emod_nonneg (if c < 0 then -c else c) (show (2147483629 : Int) ≠ 0 by decide)
      omega
    · have := Int.emod_lt_of_pos (if c < 0 then -c else c) (show (0 : Int) < 2147483629 by decide)
      omega
  · exact h.elim

theorem pure__law_draw (vs : List V) (H : Hp) (Q : VK) (E : XK) (h : sp__law_draw K vs H Q E) : t__law_draw K { nx := fun _ H' => Q .non H', rt := Q } (start N__law_draw vs) H := by
  unfold sp__law_draw at h
  split at h
  · rename_i p n
    obtain ⟨⟨a, b, hp, ha, hb, hb2⟩, hn, hn2, k⟩ := h
    have at0 : ∀ x y : Int, atI [V.int x, V.int y] 0 = some (V.int x) := fun x y => rfl
    have at1 : ∀ x y : Int, atI [V.int x, V.int y] 1 = some (V.int y) := fun x y => rfl
    refine ⟨_, rfl, p, _, _, _, rfl, rfl, SqL.of hp, at0 a b, _, _, rfl, rfl, _, rfl, ?_⟩
    by_cases h0 : 0 < a
    · refine ite2 (fun _ => ?_) (fun z => absurd (decide_eq_true h0) z)
      refine ⟨_, rfl, p, _, _, _, rfl, rfl, SqL.of hp, at0 a b, _, rfl, _, _, rfl, cdp hn hn2, fun t ht => ?_⟩
      have npt : p ≠ t := ne_of_none hp ht
      refine ⟨t, _, rfl, .inl (.inl upd_same), rfl, _, _, rfl, _, rfl, p, _, _, 0, rfl, rfl, by rw [upd_ne npt]; exact hp, rfl, _, _, rfl, rfl, _, rfl, ?_⟩
      refine k _ _ (Int.emod_nonneg a (by omega)) (Int.emod_lt_of_pos a hn) ⟨_, _, upd_same, Int.ediv_nonneg ha (by omega), hb, hb2⟩ ?_
      exact (Keep.refl.new ht).put (by simp)
    · refine ite2 (fun z => absurd (of_decide_eq_true z) h0) (fun _ => ?_)
      refine ⟨_, rfl, p, _, _, _, rfl, rfl, SqL.of hp, at1 a b, _, _, rfl, rfl, .inr ⟨by decide, by decide⟩, _, _, rfl, rfl, _, _, rfl, rfl, (by show (0 : Int) < 2147483647; decide), _, rfl, p, _, _, 1, rfl, rfl, hp, rfl, ?_⟩
      have m1 := Int.emod_nonneg (b * 48271 + 11) (show (2147483647 : Int) ≠ 0 by decide)
      have m2 := Int.emod_lt_of_pos (b * 48271 + 11) (show (0 : Int) < 2147483647 by decide)
      have hp' : upd H p (.lst ([V.int a, V.int b].set 1 (V.int ((b * 48271 + 11) % 2147483647)))) p = some (.lst [V.int a, V.int ((b * 48271 + 11) % 2147483647)]) := upd_same
      refine ⟨_, rfl, p, _, _, _, rfl, rfl, SqL.of hp', at1 a _, _, rfl, p, _, _, _, rfl, rfl, SqL.of hp', at1 a _, _, _, rfl, rfl, .inl ⟨by omega, by omega⟩, _, _, rfl, rfl, (by show (0 : Int) < 2147483629; decide), _, _, rfl, rfl, cdw (by decide) (by decide), _, rfl, _, _, rfl, rfl, hn, ?_⟩
      exact k _ _ (Int.emod_nonneg _ (by omega)) (Int.emod_lt_of_pos _ hn) ⟨_, _, hp', ha, m1, by omega⟩ (Keep.refl.put (by simp))
  · exact h.elim

theorem pure__law_word (vs : List V) (H : Hp) (Q : VK) (E : XK) (h : sp__law_word K vs H Q E) : t__law_word K { nx := fun _ H' => Q .non H', rt := Q } (start N__law_word vs) H := by
  unfold sp__law_word at h
  split at h
  · rename_i p
    obtain ⟨hP, k⟩ := h
    refine ⟨⟨_, rfl⟩, _, rfl, hP, by decide, by decide, fun n H1 n0 n8 P1 k1 => ?_⟩
    refine ⟨_, _, rfl, rfl, _, rfl, by omega, by omega, fun D hD => ?_⟩
    have pd : p ≠ D := by
      obtain ⟨a, b, e, _⟩ := P1
      exact ne_of_none e hD
    have hD0 : H D = none := k1.free (by simp [pd.symm]) hD
    have hPD : PotAt (upd H1 D (.lst [])) p := P1.keep (l := []) (.same (same_new hD)) (by simp)
    refine lc_range (g := gName 1) (vs := [1]) (lo := 0) (n := (1 + n).toNat) (fun i H' => PotAt H' p ∧ Keep [p] H H' ∧ ∃ cs : List Nat, cs.length = i ∧ (∀ c ∈ cs, c ∈ abc.cps.toList) ∧ H' D = some (.lst (cs.map fun c => V.str ⟨#[c]⟩))) ⟨hPD, k1.new hD0, [], rfl, by simp, upd_same⟩ (fun i H2 hi ⟨P2, k2, cs, hl, hc, hd⟩ => ?_) (fun H2 ⟨P2, k2, cs, hl, hc, hd⟩ => ?_)
    · refine ⟨wipe1, _, rfl, P2, by decide, by decide, fun d H3 d0 d26 P3 k3 => ?_⟩
      obtain ⟨c, hat, hmem⟩ := abc_at d0 d26
      have hd3 := k3.k _ _ hd (by simp [pd.symm])
      refine ⟨_, _, c, rfl, rfl, by rw [abc_size]; decide, hat, _, hd3, by rw [List.length_map, sizeLine_eq]; omega, ?_⟩
      refine ⟨P3.keep (l := [D]) (Keep.refl.put (by simp)) (by simp [pd]), (k2.trans k3).new hD0, cs ++ [c], by simp [hl], ?_, by rw [upd_same, List.map_append]; rfl⟩
      intro x hx
      rcases List.mem_append.mp hx with hx | hx
      · exact hc x hx
      · rw [List.mem_singleton.mp hx]
        exact hmem
    · refine ⟨_, D, cs.map fun c => (⟨#[c]⟩ : Str), rfl, rfl, .inl (SqL.of (by rw [hd, List.map_map]; rfl)), ?_, ?_⟩
      · rw [signs_len, List.length_map]
        show cs.length + cs.length * 0 ≤ 16777216
        omega
      · rw [join_signs]
        refine k _ _ ⟨by rw [SX.S_len]; omega, by rw [SX.S_len]; omega, fun c hx => hc c ?_⟩ P2 k2
        simpa using hx
  · exact h.elim
theorem pure__law_is_name (vs : List V) (H : Hp) (Q : VK) (E : XK) (h : sp__law_is_name K vs H Q E) : t__law_is_name K { nx := fun _ H' => Q .non H', rt := Q } (start N__law_is_name vs) H := by
  unfold sp__law_is_name at h
  split at h
  · rename_i v
    obtain ⟨kn, k⟩ := h
    obtain ⟨T, ty, kt⟩ := kn.isS K
    refine ⟨v, rfl, v, _, _, _, _, rfl, .ty "str", ty, kt, _, rfl, ?_⟩
    cases hs : isStrV v
    rotate_left
    · obtain ⟨z, rfl⟩ := isStrV_str hs
      refine iteF ?_
      have hz : z.length ≤ sizeLine := Nat.le_trans kn.tx.len (by decide)
      have k0 := k H (Same.refl H)
      refine ⟨_, rfl, z, rfl, hz, _, _, rfl, rfl, _, rfl, ?_⟩
      by_cases h1 : (z.length : Int) < 1
      · refine ite2 (fun _ => ?_) (fun n => absurd (decide_eq_true h1) n)
        have e1 : isNm (V.str z) = false := by
          show isNmS z = false
          unfold isNmS
          rw [decide_eq_false (show ¬ 1 ≤ z.length by omega)]
          simp
        rw [e1] at k0
        exact k0
      · refine ite2 (fun n => absurd (of_decide_eq_true n) h1) (fun _ => ?_)
        refine ⟨_, rfl, z, rfl, hz, _, _, rfl, rfl, _, rfl, ?_⟩
        by_cases h8 : (8 : Int) < z.length
        · refine ite2 (fun _ => ?_) (fun n => absurd (decide_eq_true h8) n)
          have e1 : isNm (V.str z) = false := by
            show isNmS z = false
            unfold isNmS
            rw [decide_eq_false (show ¬ z.length ≤ 8 by omega)]
            simp
          rw [e1] at k0
          exact k0
        · refine ite2 (fun n => absurd (of_decide_eq_true n) h8) (fun _ => ?_)
          refine ⟨_, rfl, z, rfl, fun D hD => ?_⟩
          refine lcs_fm (fun c => !decide (c ∈ abc.cps.toList)) (fun c => V.str ⟨#[c]⟩) (show z.length ≤ 1000000 from Nat.le_trans kn.tx.len (by decide)) (fun c acc R _ r => ?_) (fun c acc R _ _ r => ?_) ?_
          · exact ⟨_, rfl, c, _, rfl, rfl, _, rfl, r⟩
          · exact ⟨_, rfl, r⟩
          · refine ⟨Nat.zero_le _, fun L hL => ?_⟩
            have nDL : D ≠ L := fun e => by
              rw [← e, upd_same] at hL
              cases hL
            refine ⟨.list ((((z.cps.toList.filter fun c => !decide (c ∈ abc.cps.toList)).map fun c => (⟨#[c]⟩ : Str))).map PyData.str), .list [], .lst (SqL.of (xs := ((z.cps.toList.filter fun c => !decide (c ∈ abc.cps.toList)).map fun c => (⟨#[c]⟩ : Str)).map V.str) ?_) (dpAll_strs _), .lst (SqL.of upd_same) .nil, shaped_strs ?_, rfl, ?_⟩
            · rw [upd_ne nDL, upd_same, List.map_map]
              rfl
            · intro y hy c hc
              obtain ⟨c', hc', rfl⟩ := List.mem_map.mp hy
              have e : c = c' := by simpa using hc
              rw [e]
              exact kn.tx.ok c' (List.mem_filter.mp hc').1
            · rw [eqv_nil]
              have e2 := k _ (U.Same.new (same_new (o := HO.lst ((z.cps.toList.filter fun c => !decide (c ∈ abc.cps.toList)).map fun c => V.str ⟨#[c]⟩)) hD) (o := HO.lst []) hL)
              have e1 : isNm (V.str z) = (List.map PyData.str ((z.cps.toList.filter fun c => !decide (c ∈ abc.cps.toList)).map fun c => (⟨#[c]⟩ : Str))).isEmpty := by
                show isNmS z = _
                unfold isNmS
                rw [decide_eq_true (show 1 ≤ z.length by omega), decide_eq_true (show z.length ≤ 8 by omega), Bool.true_and, Bool.true_and]
                rw [Bool.eq_iff_iff, List.isEmpty_iff, List.map_eq_nil_iff, List.map_eq_nil_iff, List.filter_eq_nil_iff, List.all_eq_true]
                simp
              rw [e1] at e2
              exact e2
    · refine iteT (iteT ?_)
      have e1 : isNm v = false := isNm_notStr hs
      have e2 := k H (Same.refl H)
      rw [e1] at e2
      exact e2
  · exact h.elim

theorem isWd.ok {z : Str} (h : isWd z) : TxOk z := ⟨by have := h.2.1; omega, fun c hc => by
  have h1 := h.2.2 c hc
  have h2 : ∀ d ∈ abc.cps.toList, d < 1114112 := by decide +kernel
  exact h2 c h1⟩
end G

set_option Elab.async false
set_option linter.all false
set_option maxRecDepth 100000
set_option maxHeartbeats 4000000
/-! Promise: People.wipe. -/
namespace G
open PySem PySem.Spec PyProof.Rows L2 U
def Ppl.wipe (S : Ppl) (n : Int) : Ppl := match S.name n with
  | none => S
  | some x => ⟨if S.look x = some n then S.nm.filter (fun q => decide (q.1 ≠ x)) else S.nm, S.nu.filter (fun q => decide (q.1 ≠ n)), S.many⟩
def sp_People_wipe (K : PySem.W.Frag) : Sp := fun vs H Q _ => match vs with
  | [.ref p, .int n] => ∃ d1 d2 S, PplAt K H p d1 d2 S ∧ ∀ H', PplAt K H' p d1 d2 (S.wipe n) → Keep [d1, d2] H H' → Q .non H'
  | _ => False
end G

set_option Elab.async false
set_option linter.all false
set_option maxRecDepth 100000
set_option maxHeartbeats 4000000

/-! Readings, printed by gen.py. -/
namespace G
open PySem PySem.Spec PyProof.Rows L2 U
abbrev N_People_wipe : List Str := ["self", "number", "name"]
def t_People_wipe (K : PySem.W.Frag) : TS :=
  (tSeq (tAsg (tDPop2 (tFd (He.ga K "People") (tVar 0) "by_number") (tVar 1) (tC .non)) (gName 2))
  (tIfS (tAnd (tTest (tOp rNotNn (tVar 2) (tC .non))) (tTest (tOp rEq (tDGet1 (tFd (He.ga K "People") (tVar 0) "by_name") (tVar 2)) (tVar 1)))) (tDrop (tDPop1 (tFd (He.ga K "People") (tVar 0) "by_name") (tVar 2))) tNext))
end G

set_option Elab.async false
set_option linter.all false
set_option maxRecDepth 100000
set_option maxHeartbeats 4000000
namespace G
open PySem PySem.Spec PyProof.Rows L2 U
variable {K : PySem.W.Frag}
theorem nu_drop (l : List (Int × Str)) (n : Int) : dropK (nuD l) (Sum.inl n) = nuD (l.filter fun q => decide (q.1 ≠ n)) := by
  unfold dropK nuD
  rw [List.filter_map]
  congr 1
  refine List.filter_congr fun q _ => ?_
  simp
theorem opt_eq (o : Option Int) (n : Int) : decide ((o.map V.int).getD .non = V.int n) = decide (o = some n) := by
  cases o with
  | none => rfl
  | some m =>
    show decide (V.int m = V.int n) = decide (some m = some n)
    by_cases h : m = n
    · rw [decide_eq_true (congrArg V.int h), decide_eq_true (congrArg some h)]
    · rw [decide_eq_false fun e => h (Option.some.inj e), decide_eq_false fun e => h (V.int.inj e)]
theorem scal_opt (o : Option Int) (n : Int) : scal ((o.map V.int).getD .non) (V.int n) = true := by cases o <;> rfl
theorem pure_People_wipe (vs : List V) (H : Hp) (Q : VK) (E : XK) (h : sp_People_wipe K vs H Q E) : t_People_wipe K { nx := fun _ H' => Q .non H', rt := Q } (start N_People_wipe vs) H := by
  unfold sp_People_wipe at h
  split at h
  · rename_i p n
    obtain ⟨d1, d2, S, P, k⟩ := h
    obtain ⟨dx, hp⟩ := P.ob
    refine ⟨_, rfl, p, dx, _, _, rfl, hp, fP_number, d2, rfl, .inl ⟨_, .inl P.h2⟩, _, rfl, _, Sum.inl n, P.h2, rfl, fun v hv => ?_, fun hv => ?_⟩
    · rw [nuD_val] at hv
      cases hx : S.nu.lookup n with
      | none => rw [hx] at hv; cases hv
      | some x =>
        rw [hx] at hv
        cases hv
        have en : S.name n = some x := hx
        have npd : p ≠ d2 := ne_of hp P.h2 (by intro q; cases q)
        have npd1 : p ≠ d1 := ne_of hp P.h1 (by intro q; cases q)
        refine ⟨_, rfl, rfl, _, rfl, ?_⟩
        rw [nu_drop]
        have hp2 : (upd H d2 (.dK (nuD (S.nu.filter fun q => decide (q.1 ≠ n))))) p = _ := (upd_ne npd).trans hp
        have h12 : (upd H d2 (.dK (nuD (S.nu.filter fun q => decide (q.1 ≠ n))))) d1 = _ := (upd_ne P.ne).trans P.h1
        have kk : Keep [d1, d2] H (upd H d2 (.dK (nuD (S.nu.filter fun q => decide (q.1 ≠ n))))) := Keep.refl.put (by simp)
        have h22 : (upd H d2 (.dK (nuD (S.nu.filter fun q => decide (q.1 ≠ n))))) d2 = _ := upd_same
        generalize upd H d2 (.dK (nuD (S.nu.filter fun q => decide (q.1 ≠ n)))) = H2 at hp2 h12 kk h22 ⊢
        have hlt : ∀ q ∈ S.nu.filter (fun q => decide (q.1 ≠ n)), q.1 ≤ S.many := fun q hq => P.lt q (List.mem_filter.mp hq).1
        have hl2 : (S.nu.filter (fun q => decide (q.1 ≠ n))).length ≤ 1000 := Nat.le_trans (List.length_filter_le _ _) P.l2
        refine iteT ⟨_, rfl, p, dx, _, _, rfl, hp2, fP_name, d1, rfl, .inl ⟨_, .inl h12⟩, _, rfl, _, DGet.k (k := Sum.inr x) h12, _, rfl, by rw [nmD_val]; exact scal_opt _ _, _, rfl, ?_⟩
        rw [nmD_val, opt_eq]
        have k := k
        unfold Ppl.wipe at k
        rw [en] at k
        by_cases hlk : S.look x = some n
        · have hlk' : S.nm.lookup x = some n := hlk
          rw [decide_eq_true hlk']
          replace k := fun H' => k H'
          simp only [if_pos hlk] at k
          refine iteT ⟨_, rfl, p, dx, _, _, rfl, hp2, fP_name, d1, rfl, .inl ⟨_, .inl h12⟩, _, rfl, _, Sum.inr x, V.int n, h12, rfl, by rw [nmD_val, hlk']; rfl, ?_⟩
          rw [nm_drop]
          refine k _ ⟨⟨dx, (upd_ne npd1).trans hp2⟩, upd_same, (upd_ne P.ne.symm).trans h22, P.ne, Nat.le_trans (List.length_filter_le _ _) P.l1, hl2, hlt⟩ (kk.put (by simp))
        · have hlk' : ¬ S.nm.lookup x = some n := hlk
          rw [decide_eq_false hlk']
          simp only [if_neg hlk] at k
          exact iteF (k _ ⟨⟨dx, hp2⟩, h12, h22, P.ne, P.l1, hl2, hlt⟩ kk)
    · rw [nuD_val] at hv
      have en : S.name n = none := by
        cases hx : S.nu.lookup n with
        | none => exact hx
        | some x => rw [hx] at hv; cases hv
      have e : S.wipe n = S := by
        unfold Ppl.wipe
        rw [en]
      refine ⟨_, rfl, rfl, _, rfl, iteF ?_⟩
      exact k H (by rw [e]; exact P) Keep.refl
  · exact h.elim
end G

set_option Elab.async false
set_option linter.all false
set_option maxRecDepth 100000
set_option maxHeartbeats 4000000
/-! Plain law of k12: numbers kept as a list of names (none: wiped, or number 0). -/
namespace G
open PySem PySem.Spec PyProof.Rows L2 U
def oS : Option Str → V
  | none => .non
  | some x => .str x
def nuO (k : Nat) : List (Option Str) → List (Int × Str)
  | [] => []
  | none :: r => nuO (k + 1) r
  | some x :: r => ((k : Int), x) :: nuO (k + 1) r
def buO (k : Nat) : List (Option Str) → List (Key × V)
  | [] => []
  | o :: r => (Sum.inl (k : Int), oS o) :: buO (k + 1) r
theorem buO_len : ∀ (k : Nat) (us : List (Option Str)), (buO k us).length = us.length
  | _, [] => rfl
  | k, _ :: r => congrArg (· + 1) (buO_len (k + 1) r)
theorem nuO_len : ∀ (k : Nat) (us : List (Option Str)), (nuO k us).length ≤ us.length
  | _, [] => Nat.le_refl _
  | k, none :: r => Nat.le_succ_of_le (nuO_len (k + 1) r)
  | k, some _ :: r => Nat.succ_le_succ (nuO_len (k + 1) r)
theorem valV_cons (a k : Int) (v : V) (l : List (Key × V)) : valV ((Sum.inl a, v) :: l) (Sum.inl k : Key) = if a = k then some v else valV l (Sum.inl k) := by
  unfold valV
  rw [List.find?_cons]
  by_cases h : a = k
  · rw [if_pos h, h]
    simp
  · rw [if_neg h]
    simp [h]
theorem buO_val : ∀ (k : Nat) (us : List (Option Str)) (n : Int), valV (buO k us) (Sum.inl n) = if (k : Int) ≤ n then (us[(n - k).toNat]?).map oS else none
  | k, [], n => by
    show none = _
    simp
  | k, o :: r, n => by
    show valV ((Sum.inl (k : Int), oS o) :: buO (k + 1) r) (Sum.inl n) = _
    rw [valV_cons, buO_val (k + 1) r n]
    by_cases h : (k : Int) = n
    · rw [if_pos h, if_pos (by omega), ← h]
      simp
    · rw [if_neg h]
      by_cases h2 : (k : Int) ≤ n
      · rw [if_pos h2, if_pos (by omega)]
        have e : (n - k).toNat = (n - ((k + 1 : Nat) : Int)).toNat + 1 := by omega
        rw [e, List.getElem?_cons_succ]
      · rw [if_neg h2, if_neg (by omega)]
theorem nuO_look : ∀ (k : Nat) (us : List (Option Str)) (n : Int), (nuO k us).lookup n = if (k : Int) ≤ n then (us[(n - k).toNat]?).join else none
  | k, [], n => by
    show none = _
    simp
  | k, none :: r, n => by
    show (nuO (k + 1) r).lookup n = _
    rw [nuO_look (k + 1) r n]
    by_cases h2 : (k : Int) ≤ n
    · rw [if_pos h2]
      by_cases h : (k : Int) = n
      · rw [if_neg (by omega), ← h]
        simp
      · rw [if_pos (by omega)]
        have e : (n - k).toNat = (n - ((k + 1 : Nat) : Int)).toNat + 1 := by omega
        rw [e, List.getElem?_cons_succ]
    · rw [if_neg h2, if_neg (by omega)]
  | k, some x :: r, n => by
    show ((((k : Int), x)) :: nuO (k + 1) r).lookup n = _
    rw [List.lookup_cons, nuO_look (k + 1) r n]
    by_cases h : (k : Int) = n
    · rw [← h]
      simp
    · have hb : (n == (k : Int)) = false := beq_eq_false_iff_ne.mpr fun e => h e.symm
      rw [hb]
      by_cases h2 : (k : Int) ≤ n
      · rw [if_pos h2, if_pos (by omega)]
        have e : (n - k).toNat = (n - ((k + 1 : Nat) : Int)).toNat + 1 := by omega
        rw [e, List.getElem?_cons_succ]
      · rw [if_neg h2, if_neg (by omega)]
theorem same_at (us : List (Option Str)) (n : Int) : (((nuO 0 us).lookup n).map V.str).getD .non = (valV (buO 0 us) (Sum.inl n)).getD .non := by
  rw [nuO_look, buO_val]
  by_cases h : ((0 : Nat) : Int) ≤ n
  · rw [if_pos h, if_pos h]
    cases us[(n - ((0 : Nat) : Int)).toNat]? with
    | none => rfl
    | some o => cases o <;> rfl
  · rw [if_neg h, if_neg h]
    rfl
theorem at_scal (us : List (Option Str)) (n : Int) : scal ((valV (buO 0 us) (Sum.inl n)).getD .non) ((valV (buO 0 us) (Sum.inl n)).getD .non) = true := by
  rw [buO_val]
  by_cases h : ((0 : Nat) : Int) ≤ n
  · rw [if_pos h]
    cases us[(n - ((0 : Nat) : Int)).toNat]? with
    | none => rfl
    | some o => cases o <;> rfl
  · rw [if_neg h]
    rfl
theorem nuO_app : ∀ (k : Nat) (us : List (Option Str)) (x : Str), nuO k (us ++ [some x]) = nuO k us ++ [(((k + us.length : Nat) : Int), x)]
  | k, [], x => rfl
  | k, none :: r, x => by
    show nuO (k + 1) (r ++ [some x]) = nuO (k + 1) r ++ _
    rw [nuO_app (k + 1) r x, List.length_cons, show k + 1 + r.length = k + (r.length + 1) by omega]
  | k, some y :: r, x => by
    show ((k : Int), y) :: nuO (k + 1) (r ++ [some x]) = ((k : Int), y) :: (nuO (k + 1) r ++ _)
    rw [nuO_app (k + 1) r x, List.length_cons, show k + 1 + r.length = k + (r.length + 1) by omega]
theorem buO_app : ∀ (k : Nat) (us : List (Option Str)) (o : Option Str), buO k (us ++ [o]) = buO k us ++ [((Sum.inl ((k + us.length : Nat) : Int) : Key), oS o)]
  | k, [], o => rfl
  | k, y :: r, o => by
    show (Sum.inl (k : Int), oS y) :: buO (k + 1) (r ++ [o]) = (Sum.inl (k : Int), oS y) :: (buO (k + 1) r ++ _)
    rw [buO_app (k + 1) r o, List.length_cons, show k + 1 + r.length = k + (r.length + 1) by omega]
theorem buO_keys : ∀ (k : Nat) (us : List (Option Str)), ∀ kv ∈ buO k us, ∃ i : Nat, kv.1 = Sum.inl ((i : Nat) : Int) ∧ k ≤ i ∧ i < k + us.length
  | k, [], kv, h => by cases h
  | k, o :: r, kv, h => by
    rcases List.mem_cons.mp h with rfl | h
    · exact ⟨k, rfl, Nat.le_refl _, by simp⟩
    · obtain ⟨i, e, h1, h2⟩ := buO_keys (k + 1) r kv h
      exact ⟨i, e, by omega, by rw [List.length_cons]; omega⟩
theorem buO_new (us : List (Option Str)) (v : V) : putK (buO 0 us) (Sum.inl (us.length : Int)) v = buO 0 us ++ [(Sum.inl (us.length : Int), v)] := by
  unfold putK
  rw [if_neg]
  intro h
  obtain ⟨kv, hm, he⟩ := List.any_eq_true.mp h
  obtain ⟨i, e, _, h2⟩ := buO_keys 0 us kv hm
  have he := of_decide_eq_true he
  rw [e] at he
  have := Sum.inl.inj he
  omega
theorem buO_far : ∀ (k : Nat) (us : List (Option Str)) (n : Int) (v : V), n < k → (buO k us).map (fun kv => if kv.1 = Sum.inl n then (kv.1, v) else kv) = buO k us
  | k, [], n, v, h => rfl
  | k, o :: r, n, v, h => by
    show (if (Sum.inl (k : Int) : Key) = Sum.inl n then (Sum.inl (k : Int), v) else (Sum.inl (k : Int), oS o)) :: (buO (k + 1) r).map _ = _
    rw [if_neg (fun e => by have := Sum.inl.inj e; omega), buO_far (k + 1) r n v (by omega)]
    rfl
theorem buO_map : ∀ (k : Nat) (us : List (Option Str)) (j : Nat), (buO k us).map (fun kv => if kv.1 = Sum.inl (((k + j : Nat)) : Int) then (kv.1, V.non) else kv) = buO k (us.set j none)
  | k, [], j => rfl
  | k, o :: r, 0 => by
    show (if (Sum.inl (k : Int) : Key) = Sum.inl (((k + 0 : Nat)) : Int) then ((Sum.inl (k : Int) : Key), V.non) else (Sum.inl (k : Int), oS o)) :: (buO (k + 1) r).map _ = (Sum.inl (k : Int), V.non) :: buO (k + 1) r
    rw [if_pos (show (Sum.inl (k : Int) : Key) = Sum.inl (((k + 0 : Nat)) : Int) from rfl), buO_far (k + 1) r _ _ (by omega)]
  | k, o :: r, j + 1 => by
    show (if (Sum.inl (k : Int) : Key) = Sum.inl (((k + (j + 1) : Nat)) : Int) then ((Sum.inl (k : Int) : Key), V.non) else (Sum.inl (k : Int), oS o)) :: (buO (k + 1) r).map _ = (Sum.inl (k : Int), oS o) :: buO (k + 1) (r.set j none)
    rw [if_neg (fun e => by have := Sum.inl.inj e; omega), ← buO_map (k + 1) r j, show k + (j + 1) = k + 1 + j by omega]
theorem buO_put {us : List (Option Str)} {j : Nat} (h : j < us.length) : putK (buO 0 us) (Sum.inl (j : Int)) .non = buO 0 (us.set j none) := by
  unfold putK
  have e := buO_map 0 us j
  rw [Nat.zero_add] at e
  rw [if_pos, e]
  have hv := buO_val 0 us j
  rw [if_pos (by omega), show ((j : Int) - ((0 : Nat) : Int)).toNat = j by omega, List.getElem?_eq_getElem h] at hv
  rw [List.any_eq_true]
  unfold valV at hv
  cases hf : (buO 0 us).find? (fun kv => decide (kv.1 = Sum.inl (j : Int))) with
  | none => rw [hf] at hv; cases hv
  | some kv =>
    have h3 := List.find?_some (p := fun kv : Key × V => decide (kv.1 = Sum.inl (j : Int))) hf
    exact ⟨kv, List.mem_of_find?_eq_some hf, h3⟩
theorem nuO_far : ∀ (k : Nat) (us : List (Option Str)) (n : Int), n < k → (nuO k us).filter (fun q => decide (q.1 ≠ n)) = nuO k us
  | k, [], n, h => rfl
  | k, none :: r, n, h => nuO_far (k + 1) r n (by omega)
  | k, some x :: r, n, h => by
    show (((k : Int), x) :: nuO (k + 1) r).filter _ = ((k : Int), x) :: nuO (k + 1) r
    rw [List.filter_cons, if_pos (by simp; omega), nuO_far (k + 1) r n (by omega)]
theorem nuO_wipe : ∀ (k : Nat) (us : List (Option Str)) (j : Nat), (nuO k us).filter (fun q => decide (q.1 ≠ ((k + j : Nat) : Int))) = nuO k (us.set j none)
  | k, [], j => rfl
  | k, none :: r, 0 => nuO_far (k + 1) r _ (by omega)
  | k, some x :: r, 0 => by
    show (((k : Int), x) :: nuO (k + 1) r).filter _ = nuO (k + 1) r
    rw [List.filter_cons, if_neg (by simp), nuO_far (k + 1) r _ (by omega)]
  | k, none :: r, j + 1 => by
    show (nuO (k + 1) r).filter _ = nuO (k + 1) (r.set j none)
    rw [← nuO_wipe (k + 1) r j, show k + (j + 1) = k + 1 + j by omega]
  | k, some x :: r, j + 1 => by
    show (((k : Int), x) :: nuO (k + 1) r).filter _ = ((k : Int), x) :: nuO (k + 1) (r.set j none)
    rw [List.filter_cons, if_pos (by simp; omega), ← nuO_wipe (k + 1) r j, show k + (j + 1) = k + 1 + j by omega]
theorem nuO_keys : ∀ (k : Nat) (us : List (Option Str)), ((buO k us).filter (fun kv => !decide (kv.2 = V.non))).map (fun kv => kV kv.1) = ((nuO k us).map (·.1)).map V.int
  | k, [] => rfl
  | k, none :: r => by
    show (((Sum.inl (k : Int), V.non) :: buO (k + 1) r).filter (fun kv : Key × V => !decide (kv.2 = V.non))).map _ = ((nuO (k + 1) r).map (·.1)).map V.int
    rw [List.filter_cons, if_neg (by simp), nuO_keys (k + 1) r]
  | k, some x :: r => by
    show (((Sum.inl (k : Int), V.str x) :: buO (k + 1) r).filter (fun kv : Key × V => !decide (kv.2 = V.non))).map _ = V.int (k : Int) :: ((nuO (k + 1) r).map (·.1)).map V.int
    rw [List.filter_cons, if_pos (by simp), List.map_cons, nuO_keys (k + 1) r]
    rfl
theorem buO_all : ∀ (k : Nat) (us : List (Option Str)), (buO k us).map (fun kv => kV kv.1) = ((List.range' k us.length).map fun i => ((i : Nat) : Int)).map V.int
  | k, [] => rfl
  | k, o :: r => by
    show V.int (k : Int) :: (buO (k + 1) r).map (fun kv => kV kv.1) = _
    rw [buO_all (k + 1) r]
    rfl
theorem nuO_le : ∀ (k : Nat) (us : List (Option Str)), ∀ q ∈ nuO k us, (k : Int) ≤ q.1 ∧ q.1 < k + us.length
  | k, [], q, h => by cases h
  | k, none :: r, q, h => by
    have := nuO_le (k + 1) r q h
    rw [List.length_cons]
    omega
  | k, some x :: r, q, h => by
    rcases List.mem_cons.mp h with rfl | h
    · rw [List.length_cons]
      omega
    · have := nuO_le (k + 1) r q h
      rw [List.length_cons]
      omega
theorem nuO_sorted : ∀ (k : Nat) (us : List (Option Str)), ((nuO k us).map (·.1)).Pairwise (· ≤ ·)
  | k, [] => .nil
  | k, none :: r => nuO_sorted (k + 1) r
  | k, some x :: r => by
    show ((k : Int) :: (nuO (k + 1) r).map (·.1)).Pairwise (· ≤ ·)
    refine .cons (fun y hy => ?_) (nuO_sorted (k + 1) r)
    obtain ⟨q, hq, rfl⟩ := List.mem_map.mp hy
    have := (nuO_le (k + 1) r q hq).1
    omega
end G

set_option Elab.async false
set_option linter.all false
set_option maxRecDepth 100000
set_option maxHeartbeats 4000000
namespace G
open PySem PySem.Spec PyProof.Rows L2 U
/-- the errors of this law -/
def er12 : List Str := ["NoName", "NoPerson"]
def ex12 (K : PySem.W.Frag) : Bool := errLB er12 K
theorem ex12_ok {K : PySem.W.Frag} (h : ex12 K = true) : ErrL er12 K := errLB_ok h
/-- where a house and what is kept of it lie -/
structure Ad where
  p : Addr
  d1 : Addr
  d2 : Addr
  b : Addr
  u : Addr
def Ad.foot (A : Ad) : List Addr := [A.p, A.d1, A.d2, A.b, A.u]
structure HouseAt (K : PySem.W.Frag) (H : Hp) (A : Ad) (nm : List (Str × Int)) (us : List (Option Str)) : Prop where
  ppl : PplAt K H A.p A.d1 A.d2 ⟨nm, nuO 0 us, us.length - 1⟩
  hb : H A.b = some (.dK (nmD nm))
  hu : H A.u = some (.dK (buO 0 us))
  pos : 1 ≤ us.length
  nd : A.b ≠ A.u ∧ A.b ≠ A.d1 ∧ A.b ≠ A.d2 ∧ A.u ≠ A.d1 ∧ A.u ≠ A.d2
theorem HouseAt.nbp {K : PySem.W.Frag} {H : Hp} {A : Ad} {nm : List (Str × Int)} {us : List (Option Str)} (h : HouseAt K H A nm us) : A.b ≠ A.p ∧ A.u ≠ A.p := by
  obtain ⟨dx, hp⟩ := h.ppl.ob
  exact ⟨ne_of h.hb hp (by intro q; cases q), ne_of h.hu hp (by intro q; cases q)⟩
theorem PplAt.keep {K : PySem.W.Frag} {l : List Addr} {H H' : Hp} {p d1 d2 : Addr} {S : Ppl} (P : PplAt K H p d1 d2 S) (s : Keep l H H') (n0 : p ∉ l) (n1 : d1 ∉ l) (n2 : d2 ∉ l) : PplAt K H' p d1 d2 S := by
  obtain ⟨dx, hp⟩ := P.ob
  exact ⟨⟨dx, s.k _ _ hp n0⟩, s.k _ _ P.h1 n1, s.k _ _ P.h2 n2, P.ne, P.l1, P.l2, P.lt⟩
theorem HouseAt.keep {K : PySem.W.Frag} {l : List Addr} {H H' : Hp} {A : Ad} {nm : List (Str × Int)} {us : List (Option Str)} (h : HouseAt K H A nm us) (s : Keep l H H') (n : ∀ x ∈ A.foot, x ∉ l) : HouseAt K H' A nm us :=
  ⟨h.ppl.keep s (n _ (by simp [Ad.foot])) (n _ (by simp [Ad.foot])) (n _ (by simp [Ad.foot])), s.k _ _ h.hb (n _ (by simp [Ad.foot])), s.k _ _ h.hu (n _ (by simp [Ad.foot])), h.pos, h.nd⟩
theorem HouseAt.same {K : PySem.W.Frag} {H H' : Hp} {A : Ad} {nm : List (Str × Int)} {us : List (Option Str)} (h : HouseAt K H A nm us) (s : Same H H') : HouseAt K H' A nm us := h.keep (l := []) (.same s) (by simp)
/-- what a name is -/
def nmOk (x : Str) : Prop := isNmS x = true ∧ TxOk x
def sp__law_cell (K : PySem.W.Frag) : Sp := fun vs H Q _ => match vs with
  | [.ref a, .int k] => 0 ≤ k ∧ ∃ ns : List Int, SqL K H a (ns.map V.int) ∧ ∀ c, Q (.int c) H
  | _ => False
def sp__law_names (K : PySem.W.Frag) : Sp := fun vs H Q _ => match vs with
  | [.ref p] => PotAt H p ∧ ∀ (xs : List Str) l H', xs.length = 6 → (∀ x ∈ xs, nmOk x) → H' l = some (.lst (xs.map V.str)) → Keep [p] H H' → Q (.ref l) H'
  | _ => False
def sp__law_cut (K : PySem.W.Frag) : Sp := fun vs H Q _ => match vs with
  | [.ref p, .str x] => ErrL er12 K ∧ nmOk x ∧ ∃ d1 d2 S, PplAt K H p d1 d2 S ∧ (S.look x = none → ∀ a H', H' a = some (.lst [.str "no", .bl true]) → Same H H' → Q (.ref a) H') ∧
    (∀ n, S.look x = some n → ∀ H', PplAt K H' p d1 d2 ⟨S.nm.filter (fun q => decide (q.1 ≠ x)), S.nu, S.many⟩ → Keep [d1] H H' → Q (.int n) H')
  | _ => False
def sp__law_done (K : PySem.W.Frag) : Sp := fun vs H Q _ => match vs with
  | [.ref p, .ref t, .str x, .int w, .int n] => ErrL er12 K ∧ nmOk x ∧ ∃ A nm us, A.p = p ∧ HouseAt K H A nm us ∧ SqT K H t [.ref A.b, .ref A.u] ∧ nm.length < 900 ∧ us.length < 900 ∧
    ∀ nm' us' H', HouseAt K H' A nm' us' → nm'.length ≤ nm.length + 1 → us'.length ≤ us.length + 1 → Keep A.foot H H' → Q (.bl true) H'
  | _ => False
def sp__law_stands (K : PySem.W.Frag) : Sp := fun vs H Q _ => match vs with
  | [.ref p, .ref t, .ref l] => ∃ A nm us, ∃ xs : List Str, A.p = p ∧ HouseAt K H A nm us ∧ SqT K H t [.ref A.b, .ref A.u] ∧ SqL K H l (xs.map V.str) ∧ (∀ x ∈ xs, nmOk x) ∧ xs.length ≤ 100 ∧ us.length < 64 ∧
    ∀ H', Same H H' → Q (.bl true) H'
  | _ => False
def sp_law (K : PySem.W.Frag) : Sp := fun vs H Q _ => match vs with
  | [.ref a] => ErrL er12 K ∧ ∃ ns : List Int, SqL K H a (ns.map V.int) ∧ ns.length ≤ 63 ∧ ∀ H', Q (.bl true) H'
  | _ => False
end G

set_option Elab.async false
set_option linter.all false
set_option maxRecDepth 100000
set_option maxHeartbeats 4000000

/-! Readings, printed by gen.py. -/
namespace G
open PySem PySem.Spec PyProof.Rows L2 U
abbrev N__law_cell : List Str := ["_law_script", "_law_k"]
def t__law_cell (K : PySem.W.Frag) : TS :=
  (tSeq (tIfS (tTest (tOp rLtI (tVar 1) (tCB (rLenSeq K) (tCons (tVar 0) tNil)))) (tRet (tOp (rIxL K) (tVar 0) (tVar 1))) tNext)
  (tRet (tC (.int 0))))
abbrev N__law_cut : List Str := ["_law_people", "_law_name", "_law_found", "e"]
def t__law_cut (K : PySem.W.Frag) : TS :=
  (tSeq (tAsg (tC .non) (gName 2))
  (tSeq (fun D σ H => (fun W => (tAsg (tMt (He.ga K "People") "cut_off" (sp_People_cut_off K) [] (WE W) (tVar 0) (tCons (tVar 1) tNil)) (gName 2))) (wAs K (.ref (He.ga K "HallError")) 3 (fun ea cls ed => (tAsg (tLst (tCons (tC (.str "no")) (tCons (tCB (rIsX K ea cls ed) (tCons (tVar 3) (tCons (tC (.ref (He.ga K "NoPerson"))) tNil))) tNil))) (gName 2))) (fun _ _ _ _ => False) D) D σ H)
  (tRet (tVar 2))))
abbrev N__law_done : List Str := ["_law_people", "_law_kept", "_law_name", "_law_way", "_law_number", "_law_by_name", "_law_by_number", "_law_due", "_law_found"]
def t__law_done (K : PySem.W.Frag) : TS :=
  (tSeq (tAsg (tVar 1) (gTup K 2 (gCons (gName 5) (gCons (gName 6) gNil))))
  (tSeq (tIfS (tTest (tOp rLtI (tVar 3) (tC (.int 2)))) (tSeq (tIfS (tB (tDNotIn (tVar 2) (tVar 5))) (tSeq (sDPut (tVar 5) (tVar 2) (tOp rAddI (tC (.int 1)) (tCB (rMax K) (tCons (tOp rCat (tLst (tCons (tC (.int 0)) tNil)) (tCB rListKV (tCons (tKeysV (tVar 6)) tNil))) tNil))))
  (sDPut (tVar 6) (tDGet (tVar 5) (tVar 2)) (tVar 2))) tNext)
  (tRet (tOp rEq (tMt (He.ga K "People") "number_of" (sp_People_number_of K) [] ES0 (tVar 0) (tCons (tVar 2) tNil)) (tDGet (tVar 5) (tVar 2))))) tNext)
  (tSeq (tIfS (tTest (tOp rEq (tVar 3) (tC (.int 2)))) (tSeq (tAsg (tDPop2 (tVar 5) (tVar 2) (tC .non)) (gName 7))
  (tSeq (tAsg (tCl (sp__law_cut K) [] ES0 (tCons (tVar 0) (tCons (tVar 2) tNil))) (gName 8))
  (tRet (tIf (tTest (tOp rIsNn (tVar 7) (tC .non))) (tOp (rEqD K) (tVar 8) (tLst (tCons (tC (.str "no")) (tCons (tC (.bl true)) tNil)))) (tOp (rEqD K) (tVar 8) (tVar 7)))))) tNext)
  (tSeq (tIfS (tTest (tOp rNotNn (tMt (He.ga K "People") "wipe" (sp_People_wipe K) [] ES0 (tVar 0) (tCons (tVar 4) tNil)) (tC .non))) (tRet (tC (.bl false))) tNext)
  (tSeq (tAsg (tDGet1 (tVar 6) (tVar 4)) (gName 2))
  (tSeq (tIfS (tAnd (tTest (tOp rNotNn (tVar 2) (tC .non))) (tTest (tOp rEq (tDGet1 (tVar 5) (tVar 2)) (tVar 4)))) (tDrop (tDPop1 (tVar 5) (tVar 2))) tNext)
  (tSeq (tIfS (tB (tDIn (tVar 4) (tVar 6))) (sDPut (tVar 6) (tVar 4) (tC .non)) tNext)
  (tRet (tC (.bl true))))))))))
abbrev N__law_names : List Str := ["_law_pot_here", "_law_found", "_law_word_here"]
def t__law_names (K : PySem.W.Frag) : TS :=
  (tSeq (tAsg (tLst tNil) (gName 1))
  (tSeq (tWhile (tTest (tOp rLtI (tCB (rLenSeq K) (tCons (tVar 1) tNil)) (tC (.int 6)))) (tSeq (tAsg (tCl (sp__law_word K) [] ES0 (tCons (tVar 0) tNil)) (gName 2))
  (tSeq (tIfS (tTest (tOp (rIn K false) (tVar 2) (tVar 1))) (tAsg (tOp rMulS (tOp rIxS (tC (.str "abcdef")) (tCB (rLenSeq K) (tCons (tVar 1) tNil))) (tC (.int 8))) (gName 2)) tNext)
  (tIfS (tTest (tOp (rIn K true) (tVar 2) (tVar 1))) (tDrop (tBM K "list" rAppend (tVar 1) (tCons (tVar 2) tNil))) (tDrop (tBM K "list" rAppend (tVar 1) (tCons (tOp rMulS (tOp rIxS (tC (.str "ghijkl")) (tCB (rLenSeq K) (tCons (tVar 1) tNil))) (tC (.int 7))) tNil)))))))
  (tRet (tVar 1))))
abbrev N__law_stands : List Str := ["_law_people", "_law_kept", "_law_names_here", "_law_by_name", "_law_by_number", "_law_number", "_law_found", "_law_name"]
def t__law_stands (K : PySem.W.Frag) : TS :=
  (tSeq (tAsg (tVar 1) (gTup K 2 (gCons (gName 3) (gCons (gName 4) gNil))))
  (tSeq (tIfS (tTest (tOp (rNeD K) (tLc (iList K (tVar 2)) (gName 7) tYes (tMt (He.ga K "People") "known" (sp_People_known K) [] ES0 (tVar 0) (tCons (tVar 7) tNil)) [7]) (tLc (iList K (tVar 2)) (gName 7) tYes (tDGet1 (tVar 3) (tVar 7)) [7]))) (tRet (tC (.bl false))) tNext)
  (tSeq (tFor (iList K (tOp rCat (tLstRg (tRg1 (tOp rAddI (tCB rLenDc (tCons (tVar 4) tNil)) (tC (.int 3))))) (tLst (tCons (tUn (rU fun i => .int (-i)) (tC (.int 1))) (tCons (tUn (rU fun i => .int (-i)) (tCB rLenDc (tCons (tVar 4) tNil))) (tCons (tOp rPowI (tC (.int 10)) (tC (.int 40))) tNil)))))) (gName 5) (tIfS (tTest (tOp rNe (tMt (He.ga K "People") "name_of" (sp_People_name_of K) [] ES0 (tVar 0) (tCons (tVar 5) tNil)) (tDGet1 (tVar 4) (tVar 5)))) (tRet (tC (.bl false))) tNext))
  (tSeq (tAsg (tMt (He.ga K "People") "numbers" (sp_People_numbers K) [] ES0 (tVar 0) tNil) (gName 6))
  (tSeq (tIfS (tTest (tOp (rNeD K) (tVar 6) (tCB (rSortedI K) (tCons (tLockE (tLc (iKeys (tVar 4)) (gName 5) (tTest (tOp rNotNn (tDGet (tVar 4) (tVar 5)) (tC .non))) (tVar 5) [5])) tNil)))) (tRet (tC (.bl false))) tNext)
  (tSeq (tDrop (tBM K "list" rAppend (tVar 6) (tCons (tC (.int 0)) tNil)))
  (tRet (tC (.bl true)))))))))
abbrev N_law : List Str := ["_law_script", "_law_names_here", "_law_houses", "_law_kept", "_law_cell_here", "_law_pot_here", "_law_k", "_law_name", "_law_way", "_law_many", "_law_number", "_law_j"]
def t_law (K : PySem.W.Frag) : TS :=
  (tSeq (tAsg (tCl (sp__law_names K) [] ES0 (tCons (tCl (sp__law_pot K) [] ES0 (tCons (tCl (sp__law_cell K) [] ES0 (tCons (tVar 0) (tCons (tC (.int 0)) tNil))) tNil)) tNil)) (gName 1))
  (tSeq (tAsg (tLst (tCons (tMk (He.ga K "People") (sp_People___init__ K) [] ES0 tNil) (tCons (tMk (He.ga K "People") (sp_People___init__ K) [] ES0 tNil) tNil))) (gName 2))
  (tSeq (tAsg (tLst (tCons (tTup (tCons tDNewK (tCons (tDisp [((tC (.int 0)), (tC .non))]) tNil))) (tCons (tTup (tCons tDNewK (tCons (tDisp [((tC (.int 0)), (tC .non))]) tNil))) tNil))) (gName 3))
  (tSeq (tFor (iList K (tSl (rSlL K) (tVar 0) (tPart (tC (.int 1))) (tPart (tC (.int 61))))) (gName 4) (tSeq (tAsg (tCl (sp__law_pot K) [] ES0 (tCons (tVar 4) tNil)) (gName 5))
  (tSeq (tAsg (tCl (sp__law_draw K) [] ES0 (tCons (tVar 5) (tCons (tC (.int 2)) tNil))) (gName 6))
  (tSeq (tAsg (tOp (rIxL K) (tVar 1) (tCl (sp__law_draw K) [] ES0 (tCons (tVar 5) (tCons (tC (.int 6)) tNil)))) (gName 7))
  (tSeq (tAsg (tCl (sp__law_draw K) [] ES0 (tCons (tVar 5) (tCons (tC (.int 4)) tNil))) (gName 8))
  (tSeq (tAsg (tCB rLenDc (tCons (tOp (rIxT K) (tOp (rIxL K) (tVar 3) (tVar 6)) (tC (.int 1))) tNil)) (gName 9))
  (tSeq (tAsg (tCl (sp__law_draw K) [] ES0 (tCons (tVar 5) (tCons (tOp rAddI (tVar 9) (tC (.int 4))) tNil))) (gName 10))
  (tSeq (tIfS (tTest (tOp rGeI (tVar 10) (tVar 9))) (tAsg (tOp (rIxL K) (tLst (tCons (tC (.int 0)) (tCons (tUn (rU fun i => .int (-i)) (tC (.int 1))) (tCons (tOp rAddI (tVar 9) (tC (.int 2))) (tCons (tOp rPowI (tC (.int 10)) (tC (.int 40))) tNil))))) (tOp rSubI (tVar 10) (tVar 9))) (gName 10)) tNext)
  (tSeq (tIfS (tNot (tB (tCl (sp__law_done K) [] ES0 (tCons (tOp (rIxL K) (tVar 2) (tVar 6)) (tCons (tOp (rIxL K) (tVar 3) (tVar 6)) (tCons (tVar 7) (tCons (tVar 8) (tCons (tVar 10) tNil)))))))) (tRet (tC (.bl false))) tNext)
  (tFor (iRng1 (tCons (tC (.int 2)) tNil)) (gName 11) (tIfS (tNot (tB (tCl (sp__law_stands K) [] ES0 (tCons (tOp (rIxL K) (tVar 2) (tVar 11)) (tCons (tOp (rIxL K) (tVar 3) (tVar 11)) (tCons (tVar 1) tNil)))))) (tRet (tC (.bl false))) tNext)))))))))))
  (tRet (tC (.bl true)))))))
end G

set_option Elab.async false
set_option linter.all false
set_option maxRecDepth 100000
set_option maxHeartbeats 4000000
namespace G
open PySem PySem.Spec PyProof.Rows L2 U
variable {K : PySem.W.Frag}
theorem PotAt.ne {H : Hp} {p q : Addr} (h : PotAt H p) (n : H q = none) : p ≠ q := by
  obtain ⟨a, b, e, _⟩ := h
  exact ne_of_none e n
theorem PotAt.same {H H' : Hp} {p : Addr} (h : PotAt H p) (s : Same H H') : PotAt H' p := h.keep (l := []) (.same s) (by simp)
theorem pure__law_cell (vs : List V) (H : Hp) (Q : VK) (E : XK) (h : sp__law_cell K vs H Q E) : t__law_cell K { nx := fun _ H' => Q .non H', rt := Q } (start N__law_cell vs) H := by
  unfold sp__law_cell at h
  split at h
  · rename_i a k
    obtain ⟨h0, ns, hs, q⟩ := h
    refine ⟨_, rfl, _, rfl, a, _, rfl, .inl hs, _, _, rfl, rfl, _, rfl, ?_⟩
    by_cases hk : k < ((ns.map V.int).length : Int)
    · rw [decide_eq_true hk]
      obtain ⟨v, ev, c, rfl⟩ := menu (n := (ns.map V.int).length) (fun v => ∃ c, v = V.int c) rfl h0 hk (fun v hv => by
        obtain ⟨c, _, rfl⟩ := List.mem_map.mp hv
        exact ⟨c, rfl⟩)
      exact iteT ⟨_, rfl, _, rfl, a, _, _, _, rfl, rfl, hs, ev, q c⟩
    · rw [decide_eq_false hk]
      exact iteF (q 0)
  · exact h.elim
theorem pure__law_cut (vs : List V) (H : Hp) (Q : VK) (E : XK) (h : sp__law_cut K vs H Q E) : t__law_cut K { nx := fun _ H' => Q .non H', rt := Q } (start N__law_cut vs) H := by
  unfold sp__law_cut at h
  split at h
  · rename_i p x
    obtain ⟨EK, hx, d1, d2, S, P, k1, k2⟩ := h
    obtain ⟨dx, hp⟩ := P.ob
    refine ⟨_, rfl, p, dx, _, rfl, hp, rfl, _, rfl, d1, d2, S, P, .str hx.2, (fun z => by rw [show isNm (V.str x) = true from hx.1] at z; cases z), (fun x' e' _ hl H1 s1 => ?_), (fun x' n e' _ hl H1 P1 kk => ?_)⟩
    · cases e'
      have nN : ("NoPerson" : Str) ∈ er12 := by decide +kernel
      refine ⟨true, EK.exm _ nN, fun _ a0 _ => ?_, fun q => Bool.noConfusion q⟩
      refine ⟨_, rfl, _, _, _, _, rfl, rfl, EK.exc _ nN, rfl, .own _, EK.kit _ nN _ nN, (by show 2 ≤ sizeLine; decide), fun l hl' => ?_⟩
      refine ⟨_, rfl, k1 hl l _ ?_ (s1.new hl')⟩
      rw [upd_same]
      rfl
    · cases e'
      exact ⟨_, rfl, k2 n hl H1 P1 kk⟩
  · exact h.elim
theorem mul_letters {z : Str} {c : Nat} {n : Nat} (hz : z = ⟨#[c]⟩) (hc : c ∈ abc.cps.toList) (h1 : 1 ≤ n) (h8 : n ≤ 8) : nmOk (Txt.mul z (n : Int)) := by
  subst hz
  have e : (Txt.mul (⟨#[c]⟩ : Str) (n : Int)).cps.toList = List.replicate n c := by
    match n, h1, h8 with
    | 1, _, _ => rfl
    | 2, _, _ => rfl
    | 3, _, _ => rfl
    | 4, _, _ => rfl
    | 5, _, _ => rfl
    | 6, _, _ => rfl
    | 7, _, _ => rfl
    | 8, _, _ => rfl
    | n + 9, _, h => omega
  have el : (Txt.mul (⟨#[c]⟩ : Str) (n : Int)).length = n := by
    rw [TL.len_tl]
    unfold TL.tl
    rw [e, List.length_replicate]
  have hm : ∀ d ∈ (Txt.mul (⟨#[c]⟩ : Str) (n : Int)).cps.toList, d = c := fun d hd => by
    rw [e] at hd
    exact List.eq_of_mem_replicate hd
  refine ⟨?_, by rw [el]; omega, fun d hd => ?_⟩
  · unfold isNmS
    rw [el, decide_eq_true h1, decide_eq_true h8, Bool.true_and, Bool.true_and, List.all_eq_true]
    exact fun d hd => decide_eq_true (by rw [hm d hd]; exact hc)
  · rw [hm d hd]
    have h2 : ∀ d ∈ abc.cps.toList, d < 1114112 := by decide +kernel
    exact h2 c hc
theorem wd_ok {z : Str} (h : isWd z) : nmOk z := ⟨by
  unfold isNmS
  rw [decide_eq_true h.1, decide_eq_true h.2.1, Bool.true_and, Bool.true_and, List.all_eq_true]
  exact fun c hc => decide_eq_true (h.2.2 c hc), h.ok⟩
theorem flat_strs (xs : List Str) : (xs.map V.str).all flatV = true := by
  rw [List.all_eq_true]
  intro v hv
  obtain ⟨x, _, rfl⟩ := List.mem_map.mp hv
  rfl
theorem pure__law_names (vs : List V) (H : Hp) (Q : VK) (E : XK) (h : sp__law_names K vs H Q E) : t__law_names K { nx := fun _ H' => Q .non H', rt := Q } (start N__law_names vs) H := by
  unfold sp__law_names at h
  split at h
  · rename_i p
    obtain ⟨hp, k⟩ := h
    refine ⟨Nat.zero_le _, fun l hl => ?_⟩
    have npl := hp.ne hl
    refine ⟨fun m σ H' => ∃ (xs : List Str) (v2 : Option V), σ = [some (.ref p), some (.ref l), v2] ∧ m = 6 - xs.length ∧ xs.length ≤ 6 ∧ (∀ x ∈ xs, nmOk x) ∧ H' l = some (.lst (xs.map V.str)) ∧ PotAt H' p ∧ Keep [p] H H', ⟨6, [], _, rfl, rfl, by decide, by simp, by rw [upd_same]; rfl, hp.same (same_new hl), .same (same_new hl)⟩, ?_⟩
    rintro m σ H1 ⟨xs, v2, rfl, rfl, h6, hok, hH, P1, k1⟩
    refine ⟨_, rfl, l, _, rfl, .inl (SqL.of hH), _, _, rfl, rfl, _, rfl, ?_⟩
    rw [List.length_map]
    by_cases hlt : (xs.length : Int) < 6
    · rw [decide_eq_true hlt]
      refine iteT ⟨fun σ' H' => ∃ (xs' : List Str) (v2 : Option V), σ' = [some (.ref p), some (.ref l), v2] ∧ xs'.length = xs.length + 1 ∧ (∀ x ∈ xs', nmOk x) ∧ H' l = some (.lst (xs'.map V.str)) ∧ PotAt H' p ∧ Keep [p] H H', ?_, ?_⟩
      · rintro σ' H' ⟨xs', v2, rfl, el, ok', hH', P', k'⟩
        exact ⟨6 - xs'.length, by omega, xs', v2, rfl, rfl, by omega, ok', hH', P', k'⟩
      refine ⟨_, rfl, P1, fun z H2 hz P2 k2 => ?_⟩
      have hH2 := k2.k _ _ hH (by simp [npl.symm])
      have put : ∀ (x : Str) (v2 : Option V), nmOk x → ∃ (xs' : List Str) (v2' : Option V), [some (V.ref p), some (V.ref l), v2] = [some (V.ref p), some (V.ref l), v2'] ∧ xs'.length = xs.length + 1 ∧ (∀ x ∈ xs', nmOk x) ∧ (upd H2 l (.lst (xs.map V.str ++ [V.str x]))) l = some (.lst (xs'.map V.str)) ∧ PotAt (upd H2 l (.lst (xs.map V.str ++ [V.str x]))) p ∧ Keep [p] H (upd H2 l (.lst (xs.map V.str ++ [V.str x]))) := fun x v2 hx => by
        refine ⟨xs ++ [x], v2, rfl, by simp, fun y hy => ?_, ?_, P2.keep (l := [l]) (Keep.refl.put (by simp)) (by simp [npl]), (k1.trans k2).new hl⟩
        · rcases List.mem_append.mp hy with hy | hy
          · exact hok y hy
          · rw [List.mem_singleton.mp hy]
            exact hx
        · rw [upd_same, List.map_append]
          rfl
      have hlen : (xs.map V.str).length < sizeLine := by
        rw [List.length_map, sizeLine_eq]
        omega
      have abc6 : ∀ (s : Str) (hs : s.cps.toList.length = 6), ∃ c, atI s.cps.toList (xs.length : Int) = some c ∧ c ∈ s.cps.toList := fun s hs => str_at hs (by omega) hlt
      obtain ⟨c1, at1, m1⟩ := abc6 "abcdef" (by decide +kernel)
      obtain ⟨c2, at2, m2⟩ := abc6 "ghijkl" (by decide +kernel)
      have in1 : ∀ c ∈ ("abcdef" : Str).cps.toList, c ∈ abc.cps.toList := by decide +kernel
      have in2 : ∀ c ∈ ("ghijkl" : Str).cps.toList, c ∈ abc.cps.toList := by decide +kernel
      have last : ∀ (x : Str), nmOk x → (tIfS (tTest (tOp (rIn K true) (tVar 2) (tVar 1))) (tDrop (tBM K "list" rAppend (tVar 1) (tCons (tVar 2) tNil))) (tDrop (tBM K "list" rAppend (tVar 1) (tCons (tOp rMulS (tOp rIxS (tC (.str "ghijkl")) (tCB (rLenSeq K) (tCons (tVar 1) tNil))) (tC (.int 7))) tNil))))
          { nx := fun σ' H' => ∃ (xs' : List Str) (v2 : Option V), σ' = [some (.ref p), some (.ref l), v2] ∧ xs'.length = xs.length + 1 ∧ (∀ x ∈ xs', nmOk x) ∧ H' l = some (.lst (xs'.map V.str)) ∧ PotAt H' p ∧ Keep [p] H H',
            ct := fun σ' H' => ∃ (xs' : List Str) (v2 : Option V), σ' = [some (.ref p), some (.ref l), v2] ∧ xs'.length = xs.length + 1 ∧ (∀ x ∈ xs', nmOk x) ∧ H' l = some (.lst (xs'.map V.str)) ∧ PotAt H' p ∧ Keep [p] H H', bk := tRet (tVar 1) { nx := fun _ H' => Q .non H', rt := Q }, rt := Q } [some (.ref p), some (.ref l), some (.str x)] H2 := fun x hx => by
        refine ⟨_, rfl, _, rfl, l, _, rfl, .inl (SqL.of hH2), rfl, flat_strs xs, _, rfl, ?_⟩
        refine ite2 (fun _ => ?_) (fun _ => ?_)
        · exact ⟨_, rfl, .inl ⟨rfl, _, SqL.of hH2⟩, _, rfl, l, _, _, rfl, rfl, hH2, hlen, put x _ hx⟩
        · refine ⟨_, rfl, .inl ⟨rfl, _, SqL.of hH2⟩, _, rfl, l, _, rfl, .inl (SqL.of hH2), _, _, c2, rfl, rfl, (by decide +kernel), by rw [List.length_map]; exact at2, _, 7, rfl, rfl, mulOk_of 1 7 (Nat.le_refl 1) (by decide) (by decide) (by decide) (by decide), l, _, _, rfl, rfl, hH2, hlen, put _ _ (mul_letters (n := 7) rfl (in2 _ m2) (by decide) (by decide))⟩
      refine ⟨_, rfl, _, rfl, l, _, rfl, .inl (SqL.of hH2), rfl, flat_strs xs, _, rfl, ?_⟩
      refine ite2 (fun _ => ?_) (fun _ => ?_)
      · refine ⟨_, rfl, l, _, rfl, .inl (SqL.of hH2), _, _, c1, rfl, rfl, (by decide +kernel), by rw [List.length_map]; exact at1, _, 8, rfl, rfl, mulOk_of 1 8 (Nat.le_refl 1) (by decide) (by decide) (by decide) (by decide), ?_⟩
        exact last _ (mul_letters (n := 8) rfl (in1 _ m1) (by decide) (by decide))
      · exact last z (wd_ok hz)
    · rw [decide_eq_false hlt]
      exact iteF ⟨_, rfl, k xs l H1 (by omega) hok hH k1⟩
  · exact h.elim
theorem max_all {n : Nat} {m : Int} (h : 1 ≤ n) (hm : m ∈ (0 : Int) :: (List.range' 0 n).map (fun i => ((i : Nat) : Int))) (hx : ∀ y ∈ (0 : Int) :: (List.range' 0 n).map (fun i => ((i : Nat) : Int)), y ≤ m) : 1 + m = (n : Int) := by
  have h1 : ((n - 1 : Nat) : Int) ≤ m := hx _ (List.mem_cons_of_mem _ (List.mem_map.mpr ⟨n - 1, by rw [List.mem_range'_1]; omega, rfl⟩))
  have h2 : m ≤ ((n - 1 : Nat) : Int) := by
    rcases List.mem_cons.mp hm with rfl | hm
    · omega
    · obtain ⟨i, hi, rfl⟩ := List.mem_map.mp hm
      rw [List.mem_range'_1] at hi
      omega
  omega
theorem ppl_eq {K : PySem.W.Frag} {H : Hp} {p d1 d2 : Addr} {S T : Ppl} (h : PplAt K H p d1 d2 S) (e : S = T) : PplAt K H p d1 d2 T := e ▸ h
theorem name_of_us (nm : List (Str × Int)) (us : List (Option Str)) (n : Int) : Ppl.name ⟨nm, nuO 0 us, us.length - 1⟩ n = if 0 ≤ n then (us[n.toNat]?).join else none := by
  show (nuO 0 us).lookup n = _
  rw [nuO_look]
  simp
theorem pure__law_done (vs : List V) (H : Hp) (Q : VK) (E : XK) (h : sp__law_done K vs H Q E) : t__law_done K { nx := fun _ H' => Q .non H', rt := Q } (start N__law_done vs) H := by
  unfold sp__law_done at h
  split at h
  · rename_i p t x w n
    obtain ⟨EK, hx, A, nm, us, rfl, HA, ht, ln, lu, k⟩ := h
    have hnm : isNm (V.str x) = true := hx.1
    obtain ⟨dx, hp⟩ := HA.ppl.ob
    obtain ⟨nbp, nup⟩ := HA.nbp
    obtain ⟨nbu, nb1, nb2, nu1, nu2⟩ := HA.nd
    have hnu := nuO_len 0 us
    refine ⟨_, rfl, t, _, rfl, ht, rfl, _, _, rfl, _, _, rfl, rfl, ?_⟩
    refine ⟨_, rfl, _, _, rfl, rfl, _, rfl, ?_⟩
    by_cases hw : w < 2
    · rw [decide_eq_true hw]
      refine iteT ⟨_, rfl, _, rfl, A.b, _, rfl, DGet.k (k := Sum.inr x) HA.hb, _, rfl, ?_⟩
      rw [nmD_val]
      -- the last line, when what is kept has been brought up to date
      have fin : ∀ (nm' : List (Str × Int)) (us' : List (Option Str)) (v : Int) (H1 : Hp), PplAt K H1 A.p A.d1 A.d2 ⟨nm, nuO 0 us, us.length - 1⟩ → H1 A.b = some (.dK (nmD nm')) → H1 A.u = some (.dK (buO 0 us')) → Ppl.come ⟨nm, nuO 0 us, us.length - 1⟩ x = ⟨nm', nuO 0 us', us'.length - 1⟩ → Ppl.num ⟨nm, nuO 0 us, us.length - 1⟩ x = v → nm'.lookup x = some v → 1 ≤ us'.length → nm'.length ≤ nm.length + 1 → us'.length ≤ us.length + 1 → Keep A.foot H H1 → ∀ D : Ends, D.rt = Q →
          (tRet (tOp rEq (tMt (He.ga K "People") "number_of" (sp_People_number_of K) [] ES0 (tVar 0) (tCons (tVar 2) tNil)) (tDGet (tVar 5) (tVar 2)))) D [some (.ref A.p), some (.ref t), some (.str x), some (.int w), some (.int n), some (.ref A.b), some (.ref A.u), none, none] H1 := by
        intro nm' us' v H1 P1 b1 u1 ec en el hpos hl1 hl2 k1 D hD
        obtain ⟨dx1, hp1⟩ := P1.ob
        refine ⟨_, rfl, A.p, dx1, _, rfl, hp1, rfl, _, rfl, A.d1, A.d2, _, P1, (by show nm.length < 1000; omega), (by show (nuO 0 us).length < 1000; omega), .str hx.2, (fun z => by rw [hnm] at z; cases z), fun x' e' _ H2 P2 k2 => ?_⟩
        cases e'
        have b2 := k2.k _ _ b1 (by simp [nbp, nb1, nb2])
        have u2 := k2.k _ _ u1 (by simp [nup, nu1, nu2])
        rw [ec] at P2
        rw [en]
        refine ⟨_, rfl, _, rfl, A.b, V.int v, rfl, .inl ⟨_, Sum.inr x, .inl b2, rfl, by rw [nmD_val, el]; rfl⟩, rfl, ?_⟩
        rw [decide_eq_true rfl, hD]
        exact k nm' us' H2 ⟨P2, b2, u2, hpos, HA.nd⟩ hl1 hl2 (k1.trans (k2.mono (by simp [Ad.foot])))
      cases hl : nm.lookup x with
      | some v =>
        refine iteF ?_
        have hc : Ppl.come ⟨nm, nuO 0 us, us.length - 1⟩ x = ⟨nm, nuO 0 us, us.length - 1⟩ := by
          unfold Ppl.come Ppl.look
          rw [hl]
        have hn : Ppl.num ⟨nm, nuO 0 us, us.length - 1⟩ x = v := by
          unfold Ppl.num Ppl.look
          rw [hl]
        exact fin nm us v H HA.ppl HA.hb HA.hu hc hn hl HA.pos (by omega) (by omega) Keep.refl _ rfl
      | none =>
        refine iteT ⟨(by show 1 ≤ sizeLine; decide), fun q1 n1 => ⟨_, rfl, A.u, _, rfl, .inl ((same_new n1) _ _ HA.hu), fun q2 n2 => ⟨q2, A.u, _, rfl, upd_same, .inl ((same_new n2) _ _ ((same_new n1) _ _ HA.hu)), fun q3 n3 => ?_⟩⟩⟩
        have s1 := same_new (o := .lst [V.int 0]) n1
        have s2 := s1.new (o := KeysO q2 A.u) n2
        have s3 := s2.new (o := .lst ((buO 0 us).map fun kv => kV kv.1)) n3
        have g1 := (same_new (o := .lst ((buO 0 us).map fun kv => kV kv.1)) n3) _ _ ((same_new (o := KeysO q2 A.u) n2) _ _ (upd_same (H := H) (a := q1) (o := .lst [V.int 0])))
        refine ⟨q1, q3, _, _, rfl, rfl, g1, upd_same, ?_, fun q4 n4 => ?_⟩
        · rw [List.length_map, buO_len, sizeLine_eq]
          show 1 + us.length ≤ _
          omega
        have s4 := s3.new (o := .lst ([V.int 0] ++ (buO 0 us).map fun kv => kV kv.1)) n4
        refine ⟨q4, (0 : Int) :: (List.range' 0 us.length).map (fun i => ((i : Nat) : Int)), rfl, SqL.of ?_, by simp, fun m hm hmx => ?_⟩
        · rw [upd_same, buO_all]
          rfl
        have em := max_all HA.pos hm hmx
        refine ⟨_, _, rfl, rfl, ?_⟩
        generalize upd (upd (upd (upd H q1 (.lst [V.int 0])) q2 (KeysO q2 A.u)) q3 (.lst ((buO 0 us).map fun kv => kV kv.1))) q4 (.lst ([V.int 0] ++ (buO 0 us).map fun kv => kV kv.1)) = H4 at s4 ⊢
        have HA4 := HA.same s4
        refine ⟨_, rfl, _, rfl, A.b, _, rfl, DPut.k (k := Sum.inr x) (v := V.int (1 + m)) HA4.hb (by rw [nmD_len, sizeLine_eq]; omega), ?_⟩
        rw [em, nm_put hl]
        refine ⟨_, rfl, _, rfl, _, rfl, _, rfl, A.b, V.int (us.length : Int), rfl, .inl ⟨_, Sum.inr x, .inl upd_same, rfl, ?_⟩, A.u, _, rfl, DPut.k (k := Sum.inl (us.length : Int)) ((upd_ne nbu.symm).trans HA4.hu) (by rw [buO_len, sizeLine_eq]; omega), ?_⟩
        · rw [nmD_val, List.lookup_append, hl]
          simp
        rw [buO_new]
        have ea : buO 0 us ++ [((Sum.inl (us.length : Int) : Key), V.str x)] = buO 0 (us ++ [some x]) := by
          rw [buO_app, Nat.zero_add]
          rfl
        rw [ea]
        refine fin (nm ++ [(x, (us.length : Int))]) (us ++ [some x]) us.length _ ?_ ?_ upd_same ?_ ?_ ?_ (by simp) (by simp) (by simp) ?_ _ rfl
        · exact HA4.ppl.keep (l := [A.b, A.u]) ((Keep.refl.put (by simp)).put (by simp)) (by simp [nbp.symm, nup.symm]) (by simp [nb1.symm, nu1.symm]) (by simp [nb2.symm, nu2.symm])
        · rw [upd_ne nbu, upd_same]
        · unfold Ppl.come Ppl.look
          rw [hl]
          show (⟨nm ++ [(x, ((us.length - 1 : Nat) : Int) + 1)], nuO 0 us ++ [(((us.length - 1 : Nat) : Int) + 1, x)], us.length - 1 + 1⟩ : Ppl) = _
          have := HA.pos
          have e1 : ((us.length - 1 : Nat) : Int) + 1 = (us.length : Int) := by omega
          rw [e1, nuO_app, Nat.zero_add, List.length_append, List.length_singleton, show us.length - 1 + 1 = us.length + 1 - 1 by omega]
        · unfold Ppl.num Ppl.look
          rw [hl]
          show ((us.length - 1 : Nat) : Int) + 1 = _
          have := HA.pos
          omega
        · rw [List.lookup_append, hl]
          simp
        · exact ((Keep.same s4).put (by simp [Ad.foot])).put (by simp [Ad.foot])
    · rw [decide_eq_false hw]
      refine iteF ⟨_, rfl, rfl, _, rfl, ?_⟩
      by_cases hw2 : w = 2
      · rw [decide_eq_true (by rw [hw2])]
        refine iteT ⟨_, rfl, A.b, rfl, .inl ⟨_, .inl HA.hb⟩, _, rfl, _, Sum.inr x, HA.hb, rfl, fun v hv => ?_, fun hv => ?_⟩
        · rw [nmD_val] at hv
          cases hl : nm.lookup x with
          | none => rw [hl] at hv; cases hv
          | some m =>
            rw [hl] at hv
            cases hv
            rw [nm_drop]
            have P1 := HA.ppl.keep (l := [A.b]) (H' := upd H A.b (.dK (nmD (nm.filter fun q => decide (q.1 ≠ x))))) (Keep.refl.put (by simp)) (by simp [nbp.symm]) (by simp [nb1.symm]) (by simp [nb2.symm])
            refine ⟨_, rfl, _, rfl, EK, hx, A.d1, A.d2, _, P1, (fun z => ?_), (fun m' hm' H2 P2 k2 => ?_)⟩
            · have : nm.lookup x = none := z
              rw [hl] at this
              cases this
            · have : nm.lookup x = some m' := hm'
              rw [hl] at this
              cases this
              refine ⟨_, rfl, rfl, _, rfl, iteF ⟨_, rfl, _, rfl, .int m, .int m, .int m, .int m, rfl, rfl, ?_⟩⟩
              rw [SeqAt.eqv_refl _ rfl]
              refine k (nm.filter fun q => decide (q.1 ≠ x)) us H2 ⟨P2, k2.k _ _ upd_same (by simp [nb1]), k2.k _ _ ((upd_ne nbu.symm).trans HA.hu) (by simp [nu1]), HA.pos, HA.nd⟩ ?_ (by omega) ((Keep.refl.put (by simp [Ad.foot])).trans (k2.mono (by simp [Ad.foot])))
              have := List.length_filter_le (fun q : Str × Int => decide (q.1 ≠ x)) nm
              omega
        · rw [nmD_val] at hv
          have hl : nm.lookup x = none := by
            cases hl : nm.lookup x with
            | none => rfl
            | some m => rw [hl] at hv; cases hv
          refine ⟨_, rfl, _, rfl, EK, hx, A.d1, A.d2, _, HA.ppl, (fun _ a H2 ha s2 => ?_), (fun m' hm' => ?_)⟩
          · refine ⟨_, rfl, rfl, _, rfl, iteT ⟨_, rfl, (by show 2 ≤ sizeLine; decide), fun q hq => ?_⟩⟩
            have sh : SeqAt.shaped (.list [.str "no", .bool true]) = true := by decide +kernel
            refine ⟨.list [.str "no", .bool true], .list [.str "no", .bool true], .lst (SqL.of ((same_new hq) _ _ ha)) (.cons (.str _) (.cons (.bl true) .nil)), .lst (SqL.of upd_same) (.cons (.str _) (.cons (.bl true) .nil)), sh, sh, ?_⟩
            rw [SeqAt.eqv_refl _ (SeqAt.canLay_of_shaped sh)]
            exact k nm us _ (HA.same (s2.new hq)) (by omega) (by omega) (.same (s2.new hq))
          · have : nm.lookup x = some m' := hm'
            rw [hl] at this
            cases this
      · rw [decide_eq_false (fun e => hw2 (V.int.inj e))]
        refine iteF ⟨_, rfl, A.p, dx, _, rfl, hp, rfl, _, rfl, A.d1, A.d2, _, HA.ppl, fun H1 P1 k1 => ⟨rfl, _, rfl, iteF ?_⟩⟩
        have b1 := k1.k _ _ HA.hb (by simp [nb1, nb2])
        have u1 := k1.k _ _ HA.hu (by simp [nu1, nu2])
        have kf : Keep A.foot H H1 := k1.mono (by simp [Ad.foot])
        refine ⟨_, rfl, A.u, rfl, .inl ⟨_, .inl u1⟩, _, rfl, _, DGet.k (k := Sum.inl n) u1, ?_⟩
        rw [buO_val]
        have ew : Ppl.wipe ⟨nm, nuO 0 us, us.length - 1⟩ n = Ppl.wipe ⟨nm, nuO 0 us, us.length - 1⟩ n := rfl
        -- the last lines
        have last : ∀ (nm' : List (Str × Int)) (y : V) (H2 : Hp), PplAt K H2 A.p A.d1 A.d2 ⟨nm', nuO 0 (if 0 ≤ n then us.set n.toNat none else us), us.length - 1⟩ → H2 A.b = some (.dK (nmD nm')) → H2 A.u = some (.dK (buO 0 us)) → nm'.length ≤ nm.length + 1 → Keep A.foot H H2 →
            (tSeq (tIfS (tB (tDIn (tVar 4) (tVar 6))) (sDPut (tVar 6) (tVar 4) (tC .non)) tNext) (tRet (tC (.bl true)))) { nx := fun _ H' => Q .non H', rt := Q } [some (.ref A.p), some (.ref t), some y, some (.int w), some (.int n), some (.ref A.b), some (.ref A.u), none, none] H2 := by
          intro nm' y H2 P2 b2 u2 hl2 k2
          refine ⟨_, rfl, _, rfl, A.u, _, rfl, DGet.k (k := Sum.inl n) u2, _, rfl, ?_⟩
          rw [buO_val]
          by_cases h0 : 0 ≤ n
          · rw [if_pos h0] at P2
            rw [if_pos (show ((0 : Nat) : Int) ≤ n from h0), show (n - ((0 : Nat) : Int)).toNat = n.toNat by omega]
            by_cases hj : n.toNat < us.length
            · rw [List.getElem?_eq_getElem hj]
              obtain ⟨j, rfl⟩ : ∃ j : Nat, n = (j : Int) := ⟨n.toNat, by omega⟩
              refine iteT ⟨_, rfl, _, rfl, A.u, _, rfl, DPut.k (k := Sum.inl (j : Int)) u2 (by rw [buO_len, sizeLine_eq]; omega), ?_⟩
              rw [buO_put (by simpa using hj)]
              have hj' : j < us.length := by simpa using hj
              rw [Int.toNat_natCast] at P2
              refine k nm' (us.set j none) _ ⟨?_, (upd_ne nbu).trans b2, upd_same, by rw [List.length_set]; exact HA.pos, HA.nd⟩ hl2 (by rw [List.length_set]; omega) (k2.put (by simp [Ad.foot]))
              rw [List.length_set]
              exact P2.keep (l := [A.u]) (Keep.refl.put (by simp)) (by simp [nup.symm]) (by simp [nu1.symm]) (by simp [nu2.symm])
            · rw [List.getElem?_eq_none (by omega)]
              have e : us.set n.toNat none = us := List.set_eq_of_length_le (by omega)
              rw [e] at P2
              exact iteF (k nm' us H2 ⟨P2, b2, u2, HA.pos, HA.nd⟩ hl2 (by omega) k2)
          · rw [if_neg h0] at P2
            rw [if_neg (show ¬ ((0 : Nat) : Int) ≤ n from h0)]
            exact iteF (k nm' us H2 ⟨P2, b2, u2, HA.pos, HA.nd⟩ hl2 (by omega) k2)
        -- nothing is known of the number
        have none_ : (if 0 ≤ n then (us[n.toNat]?).join else none) = none → PplAt K H1 A.p A.d1 A.d2 ⟨nm, nuO 0 (if 0 ≤ n then us.set n.toNat none else us), us.length - 1⟩ := fun hz => by
          have e1 : Ppl.wipe ⟨nm, nuO 0 us, us.length - 1⟩ n = ⟨nm, nuO 0 us, us.length - 1⟩ := by
            unfold Ppl.wipe
            rw [name_of_us, hz]
          rw [e1] at P1
          have e2 : (if 0 ≤ n then us.set n.toNat none else us) = us := by
            by_cases h0 : 0 ≤ n
            · rw [if_pos h0] at hz ⊢
              refine List.ext_getElem? fun i => ?_
              rw [List.getElem?_set]
              by_cases hi : n.toNat = i
              · subst hi
                rw [if_pos rfl]
                by_cases hl : n.toNat < us.length
                · rw [if_pos hl]
                  rw [List.getElem?_eq_getElem hl] at hz ⊢
                  have : us[n.toNat] = none := hz
                  rw [this]
                · rw [if_neg hl, List.getElem?_eq_none (by omega)]
              · rw [if_neg hi]
            · rw [if_neg h0]
          rw [e2]
          exact P1
        by_cases h0 : 0 ≤ n
        · rw [if_pos (show ((0 : Nat) : Int) ≤ n from h0), show (n - ((0 : Nat) : Int)).toNat = n.toNat by omega]
          rw [if_pos h0] at none_
          cases hg : us[n.toNat]? with
          | none =>
            refine ⟨_, rfl, rfl, _, rfl, iteF ?_⟩
            exact last nm _ H1 (none_ (by rw [hg]; rfl)) b1 u1 (by omega) kf
          | some o =>
            cases o with
            | none =>
              refine ⟨_, rfl, rfl, _, rfl, iteF ?_⟩
              exact last nm _ H1 (none_ (by rw [hg]; rfl)) b1 u1 (by omega) kf
            | some y =>
              refine ⟨_, rfl, rfl, _, rfl, iteT ?_⟩
              refine ⟨_, rfl, A.b, rfl, .inl ⟨_, .inl b1⟩, _, rfl, _, DGet.k (k := Sum.inr y) b1, _, rfl, by rw [nmD_val]; exact scal_opt _ _, _, rfl, ?_⟩
              rw [nmD_val, opt_eq]
              obtain ⟨j, rfl⟩ : ∃ j : Nat, n = (j : Int) := ⟨n.toNat, by omega⟩
              have e1 : Ppl.wipe ⟨nm, nuO 0 us, us.length - 1⟩ (j : Int) = ⟨if nm.lookup y = some (j : Int) then nm.filter (fun q => decide (q.1 ≠ y)) else nm, nuO 0 (us.set j none), us.length - 1⟩ := by
                unfold Ppl.wipe
                rw [name_of_us, if_pos h0, hg]
                show (⟨_, (nuO 0 us).filter (fun q => decide (q.1 ≠ (j : Int))), _⟩ : Ppl) = _
                have := nuO_wipe 0 us j
                rw [Nat.zero_add] at this
                rw [this]
                rfl
              rw [e1] at P1
              by_cases hlk : nm.lookup y = some (j : Int)
              · rw [if_pos hlk] at P1
                rw [decide_eq_true hlk]
                refine iteT ⟨_, rfl, A.b, rfl, .inl ⟨_, .inl b1⟩, _, rfl, _, Sum.inr y, V.int (j : Int), b1, rfl, by rw [nmD_val, hlk]; rfl, ?_⟩
                rw [nm_drop]
                refine last (nm.filter fun q => decide (q.1 ≠ y)) _ _ ?_ upd_same ((upd_ne nbu.symm).trans u1) ?_ (kf.put (by simp [Ad.foot]))
                · rw [if_pos h0, Int.toNat_natCast]
                  exact P1.keep (l := [A.b]) (Keep.refl.put (by simp)) (by simp [nbp.symm]) (by simp [nb1.symm]) (by simp [nb2.symm])
                · have := List.length_filter_le (fun q : Str × Int => decide (q.1 ≠ y)) nm
                  omega
              · rw [if_neg hlk] at P1
                rw [decide_eq_false hlk]
                refine iteF (last nm _ H1 ?_ b1 u1 (by omega) kf)
                rw [if_pos h0, Int.toNat_natCast]
                exact P1
        · rw [if_neg (show ¬ ((0 : Nat) : Int) ≤ n from h0)]
          refine ⟨_, rfl, rfl, _, rfl, iteF ?_⟩
          exact last nm _ H1 (none_ (by rw [if_neg h0])) b1 u1 (by omega) kf
  · exact h.elim
theorem buO_mem : ∀ (k : Nat) (us : List (Option Str)), ∀ kv ∈ buO k us, valV (buO k us) kv.1 = some kv.2
  | k, [], kv, h => by cases h
  | k, o :: r, kv, h => by
    show valV ((Sum.inl (k : Int), oS o) :: buO (k + 1) r) kv.1 = _
    rcases List.mem_cons.mp h with rfl | h
    · rw [valV_cons, if_pos rfl]
    · obtain ⟨i, e, h1, _⟩ := buO_keys (k + 1) r kv h
      have ih := buO_mem (k + 1) r kv h
      rw [e] at ih ⊢
      rw [valV_cons, if_neg (by omega)]
      exact ih
def oD : Option Int → PyData
  | none => .none
  | some n => .int n
theorem dp_opts {H : Hp} (f : Str → Option Int) : ∀ xs : List Str, DpAll K H (xs.map fun x => ((f x).map V.int).getD .non) (xs.map fun x => oD (f x))
  | [] => .nil
  | x :: r => by
    refine .cons ?_ (dp_opts f r)
    show Dp K H (((f x).map V.int).getD .non) (oD (f x))
    cases f x with
    | none => exact .non
    | some n => exact .int n
theorem sh_opts (f : Str → Option Int) (xs : List Str) : SeqAt.shaped (.list (xs.map fun x => oD (f x))) = true := (Dd.list (n := 0) fun d hd => by
  obtain ⟨x, _, rfl⟩ := List.mem_map.mp hd
  cases f x with
  | none => exact Dd.none
  | some n => exact Dd.int n).sh (by decide)
theorem rg_int {a b : Int} : ∀ v ∈ rgV a b, ∃ n, v = V.int n := fun v hv => by
  unfold rgV at hv
  obtain ⟨i, _, rfl⟩ := List.mem_map.mp hv
  exact ⟨_, rfl⟩
theorem thaw {H3 : Hp} {u D : Addr} {od : Obj} {o : HO} {L : List V} (h : H3 u = some o) (hD : (upd H3 u (.frz od o)) D = none) : Same H3 (upd (upd (upd H3 u (.frz od o)) D (.lst L)) u o) := fun b x e => by
  by_cases hb : b = u
  · subst hb
    rw [upd_same]
    rw [h] at e
    exact e
  · have hbD : b ≠ D := fun q => by
      subst q
      rw [upd_ne hb, e] at hD
      cases hD
    rw [upd_ne hb, upd_ne hbD, upd_ne hb]
    exact e
theorem ne_same {a b : V} (e : a = b) : (!decide (a = b)) = false := by
  rw [decide_eq_true e]
  rfl
theorem pure__law_stands (vs : List V) (H : Hp) (Q : VK) (E : XK) (h : sp__law_stands K vs H Q E) : t__law_stands K { nx := fun _ H' => Q .non H', rt := Q } (start N__law_stands vs) H := by
  unfold sp__law_stands at h
  split at h
  · rename_i p t l
    obtain ⟨A, nm, us, xs, rfl, HA, ht, hl, hok, hx100, h64, k⟩ := h
    refine ⟨_, rfl, t, _, rfl, ht, rfl, _, _, rfl, _, _, rfl, rfl, ?_⟩
    have hxl : (xs.map V.str).length ≤ 1000000 := by
      rw [List.length_map]
      omega
    let fv : V → V := fun v => match v with | .str x => ((nm.lookup x).map V.int).getD .non | _ => .non
    refine ⟨_, rfl, l, rfl, ⟨_, hl⟩, fun D hD => lcl_s (K := K) (a := l) (xs := xs.map V.str) fv hl hD hxl (fun v H1 hv s1 R r => ?_) (fun H1 s1 g1 => ?_)⟩
    · obtain ⟨x, hx, rfl⟩ := List.mem_map.mp hv
      have HA1 := HA.same s1
      obtain ⟨dx, hp⟩ := HA1.ppl.ob
      exact ⟨_, rfl, A.p, dx, _, rfl, hp, rfl, _, rfl, A.d1, A.d2, _, HA1.ppl, .str (hok x hx).2, (fun z => by rw [show isNm (V.str x) = true from (hok x hx).1] at z; cases z), fun x' e' _ H2 s2 => by
        cases e'
        exact r H2 s2⟩
    refine ⟨_, rfl, l, rfl, ⟨_, s1.seq hl⟩, fun D2 hD2 => lcl_s (K := K) (a := l) (xs := xs.map V.str) fv (s1.seq hl) hD2 hxl (fun v H2 hv s2 R r => ?_) (fun H2 s2 g2 => ?_)⟩
    · obtain ⟨x, hx, rfl⟩ := List.mem_map.mp hv
      have HA2 := HA.same (s1.trans s2)
      refine ⟨_, rfl, A.b, rfl, .inl ⟨_, .inl HA2.hb⟩, _, rfl, _, DGet.k (k := Sum.inr x) HA2.hb, ?_⟩
      rw [nmD_val]
      exact r H2 (Same.refl H2)
    have ef : (xs.map V.str).map fv = xs.map fun x => ((nm.lookup x).map V.int).getD .non := by
      rw [List.map_map]
      rfl
    have g1' := s2 _ _ g1
    rw [ef] at g1' g2
    have sh := sh_opts (fun x => nm.lookup x) xs
    refine ⟨.list (xs.map fun x => oD (nm.lookup x)), .list (xs.map fun x => oD (nm.lookup x)), .lst (SqL.of g1') (dp_opts (fun x => nm.lookup x) xs), .lst (SqL.of g2) (dp_opts (fun x => nm.lookup x) xs), sh, sh, _, rfl, ?_⟩
    rw [SeqAt.eqv_refl _ (SeqAt.canLay_of_shaped sh)]
    refine iteF ?_
    have s2' := s1.trans s2
    have HA2 := HA.same s2'
    clear g1 g2 g1' ef hD hD2 s1 s2
    refine ⟨_, rfl, A.u, _, rfl, HA2.hu, _, _, rfl, rfl, _, rfl, RgOk.of_le (by decide) (by rw [buO_len]; omega) (by decide) (by rw [buO_len]; omega), fun q1 n1 => ?_⟩
    have HA3 := HA2.same (same_new (o := .lst (rgV 0 (((buO 0 us).length : Int) + 3))) n1)
    refine ⟨_, rfl, _, rfl, A.u, _, rfl, HA3.hu, _, rfl, _, _, rfl, rfl, ⟨by decide, by decide, by decide⟩, (by show 3 ≤ sizeLine; decide), fun q2 n2 => ?_⟩
    refine ⟨q1, q2, _, _, rfl, rfl, (same_new n2) _ _ upd_same, upd_same, ?_, fun q3 n3 => ?_⟩
    · rw [rgV_length, buO_len, sizeLine_eq]
      show _ + 3 ≤ _
      omega
    have s5 := ((s2'.new (o := .lst (rgV 0 (((buO 0 us).length : Int) + 3))) n1).new n2).new (o := .lst (rgV 0 (((buO 0 us).length : Int) + 3) ++ [V.int (-1), V.int (-((buO 0 us).length : Int)), V.int ((10 : Int) ^ (40 : Int).toNat)])) n3
    refine ⟨q3, rfl, ⟨_, SqL.of upd_same⟩, ?_⟩
    have hall : ∀ v ∈ rgV 0 (((buO 0 us).length : Int) + 3) ++ [V.int (-1), V.int (-((buO 0 us).length : Int)), V.int ((10 : Int) ^ (40 : Int).toNat)], ∃ n, v = V.int n := fun v hv => by
      rcases List.mem_append.mp hv with hv | hv
      · exact rg_int v hv
      · simp only [List.mem_cons, List.not_mem_nil, or_false] at hv
        rcases hv with rfl | rfl | rfl <;> exact ⟨_, rfl⟩
    refine for_list (K := K) (a := q3) (xs := rgV 0 (((buO 0 us).length : Int) + 3) ++ [V.int (-1), V.int (-((buO 0 us).length : Int)), V.int ((10 : Int) ^ (40 : Int).toNat)])
      (fun i σ H' => ∃ v5, σ = [some (.ref A.p), some (.ref t), some (.ref l), some (.ref A.b), some (.ref A.u), v5, none, none] ∧ Same H H' ∧ H' q3 = some (.lst (rgV 0 (((buO 0 us).length : Int) + 3) ++ [V.int (-1), V.int (-((buO 0 us).length : Int)), V.int ((10 : Int) ^ (40 : Int).toNat)])))
      ⟨_, rfl, s5, upd_same⟩ (fun i σ H' _ ⟨_, _, _, e⟩ => SqL.of e) ?_ ?_
    · rintro i y σ H' hi ⟨v5, rfl, sH, hq⟩
      obtain ⟨n, rfl⟩ := hall y (List.mem_of_getElem? hi)
      have HH := HA.same sH
      obtain ⟨dx, hp⟩ := HH.ppl.ob
      refine ⟨_, rfl, A.p, dx, _, rfl, hp, rfl, _, rfl, A.d1, A.d2, _, HH.ppl, _, rfl, A.u, rfl, .inl ⟨_, .inl HH.hu⟩, _, rfl, _, DGet.k (k := Sum.inl n) HH.hu, ?_, _, rfl, iteE (ne_same (same_at us n)) ⟨_, rfl, sH, hq⟩⟩
      show scal ((((nuO 0 us).lookup n).map V.str).getD .non) _ = true
      rw [same_at]
      exact at_scal us n
    · rintro σ H' ⟨v5, rfl, sH, hq⟩
      have HH := HA.same sH
      obtain ⟨dx, hp⟩ := HH.ppl.ob
      have hlt : (nuO 0 us).length < 64 := Nat.lt_of_le_of_lt (nuO_len 0 us) h64
      refine ⟨_, rfl, A.p, dx, _, rfl, hp, rfl, A.d1, A.d2, _, HH.ppl, hlt, fun ys H6 a py sy fa s6 ga => ?_⟩
      have H6A := HH.same s6
      refine ⟨_, rfl, A.u, _, H6A.hu, trivial, fun od => ⟨_, rfl, A.u, od, rfl, .inl ⟨_, upd_same, fun D hD => ?_⟩⟩⟩
      have nuD : A.u ≠ D := fun e => by
        rw [← e, upd_same] at hD
        cases hD
      have fz : ∀ acc, (upd (upd H6 A.u (.frz od (.dK (buO 0 us)))) D (.lst acc)) A.u = some (.frz od (.dK (buO 0 us))) := fun acc => by rw [upd_ne nuD, upd_same]
      refine lck_fm (d := A.u) (o := od) (kvs := buO 0 us) (fun kv => !decide (kv.2 = V.non)) (fun kv => kV kv.1) upd_same hD (by rw [buO_len]; omega) (fun kv acc R hm r => ?_) (fun kv acc R hm _ r => ?_) ?_
      · exact ⟨_, rfl, _, rfl, A.u, kv.2, rfl, .inl ⟨_, kv.1, .inr ⟨od, fz acc⟩, rfl, (buO_mem 0 us kv hm).symm⟩, rfl, _, rfl, r⟩
      · exact ⟨_, rfl, r⟩
      · refine ⟨fz _, ?_⟩
        rw [nuO_keys]
        have s7 := thaw (L := ((nuO 0 us).map (·.1)).map V.int) H6A.hu hD
        have gD : (upd (upd (upd H6 A.u (.frz od (.dK (buO 0 us)))) D (.lst (((nuO 0 us).map (·.1)).map V.int))) A.u (.dK (buO 0 us))) D = some (.lst (((nuO 0 us).map (·.1)).map V.int)) := by
          rw [upd_ne nuD.symm, upd_same]
        generalize upd (upd (upd H6 A.u (.frz od (.dK (buO 0 us)))) D (.lst (((nuO 0 us).map (·.1)).map V.int))) A.u (.dK (buO 0 us)) = H7 at s7 gD ⊢
        refine ⟨D, (nuO 0 us).map (·.1), rfl, SqL.of gD, fun zs q pz sz fq => ?_⟩
        have e1 : ys = (nuO 0 us).map (·.1) := PySem.W.ksm_same py sy (nuO_sorted 0 us)
        have e2 : zs = (nuO 0 us).map (·.1) := PySem.W.ksm_same pz sz (nuO_sorted 0 us)
        have ga7 := (same_new (o := .lst (zs.map V.int)) fq) _ _ (s7 _ _ ga)
        refine ⟨.list (ys.map PyData.int), .list (zs.map PyData.int), .lst (SqL.of ga7) (dpAll_ints ys), .lst (SqL.of upd_same) (dpAll_ints zs), shaped_ints _, shaped_ints _, _, rfl, ?_⟩
        rw [e1, e2, SeqAt.eqv_refl _ (SeqAt.canLay_of_shaped (shaped_ints _))]
        refine iteF ?_
        rw [e1] at ga7
        rw [e2] at ga7
        refine ⟨_, rfl, .inl ⟨rfl, _, SqL.of ga7⟩, a, _, _, rfl, rfl, ga7, ?_, ?_⟩
        · rw [List.length_map, List.length_map, sizeLine_eq]
          omega
        · have s8 : Same H' (upd H7 q (.lst (((nuO 0 us).map (·.1)).map V.int))) := (s6.trans s7).new fq
          exact k _ (sH.trans (U.Same.mut s8 fa))
  · exact h.elim
theorem cut_ints {ms : List Int} {y z : Int} (n : Nat) (h : ms.length ≤ 63) (hy : 0 ≤ y) (hz : z = y + n) : ∃ cs : List Int, cutV (ms.map V.int) (some y) (some z) = cs.map V.int ∧ cs.length ≤ n := by
  unfold cutV
  rw [← List.map_drop, ← List.map_take]
  refine ⟨_, rfl, ?_⟩
  rw [List.length_take, List.length_drop]
  have e1 : ∀ d, HT.sIx (ms.map V.int).length d (some z) ≤ z.toNat := fun d => by
    show (if z < 0 then (z + ((ms.map V.int).length : Int)).toNat else min z.toNat (ms.map V.int).length) ≤ z.toNat
    rw [if_neg (by omega)]
    exact Nat.min_le_left _ _
  have e2 : HT.sIx (ms.map V.int).length 0 (some y) = min y.toNat ms.length := by
    show (if y < 0 then (y + ((ms.map V.int).length : Int)).toNat else min y.toNat (ms.map V.int).length) = _
    rw [if_neg (by omega), List.length_map]
  have e3 := e1 (ms.map V.int).length
  rw [e2]
  omega
theorem ints_at {cs : List Int} {i : Nat} {y : V} (hi : (cs.map V.int)[i]? = some y) : ∃ c, y = V.int c := by
  rw [List.getElem?_map] at hi
  cases e : cs[i]? with
  | none => rw [e] at hi; cases hi
  | some u => rw [e] at hi; exact ⟨u, (Option.some.inj hi).symm⟩
theorem HouseAt.noL {H : Hp} {A : Ad} {nm : List (Str × Int)} {us : List (Option Str)} {x : Addr} {xs : List V} (h : HouseAt K H A nm us) (e : H x = some (.lst xs)) : x ∉ A.foot := by
  obtain ⟨dx, hp⟩ := h.ppl.ob
  unfold Ad.foot
  simp only [List.mem_cons, List.not_mem_nil, or_false, not_or]
  exact ⟨ne_of e hp (by intro q; cases q), ne_of e h.ppl.h1 (by intro q; cases q), ne_of e h.ppl.h2 (by intro q; cases q), ne_of e h.hb (by intro q; cases q), ne_of e h.hu (by intro q; cases q)⟩
theorem HouseAt.noT {H : Hp} {A : Ad} {nm : List (Str × Int)} {us : List (Option Str)} {x : Addr} {xs : List V} (h : HouseAt K H A nm us) (e : H x = some (.tup xs)) : x ∉ A.foot := by
  obtain ⟨dx, hp⟩ := h.ppl.ob
  unfold Ad.foot
  simp only [List.mem_cons, List.not_mem_nil, or_false, not_or]
  exact ⟨ne_of e hp (by intro q; cases q), ne_of e h.ppl.h1 (by intro q; cases q), ne_of e h.ppl.h2 (by intro q; cases q), ne_of e h.hb (by intro q; cases q), ne_of e h.hu (by intro q; cases q)⟩
/-- what stays as it is while the deeds are done -/
structure Fix (H : Hp) (A B : Ad) (hl kl t0 t1 nl q : Addr) (ns : List Str) (cs : List Int) : Prop where
  h : H hl = some (.lst [.ref A.p, .ref B.p])
  k : H kl = some (.lst [.ref t0, .ref t1])
  a0 : H t0 = some (.tup [.ref A.b, .ref A.u])
  a1 : H t1 = some (.tup [.ref B.b, .ref B.u])
  n : H nl = some (.lst (ns.map V.str))
  q : H q = some (.lst (cs.map V.int))
theorem Fix.same {H H' : Hp} {A B : Ad} {hl kl t0 t1 nl q : Addr} {ns : List Str} {cs : List Int} (f : Fix H A B hl kl t0 t1 nl q ns cs) (s : Same H H') : Fix H' A B hl kl t0 t1 nl q ns cs := ⟨s _ _ f.h, s _ _ f.k, s _ _ f.a0, s _ _ f.a1, s _ _ f.n, s _ _ f.q⟩
theorem Fix.keep {H H' : Hp} {A B C : Ad} {hl kl t0 t1 nl q : Addr} {ns : List Str} {cs : List Int} {nm : List (Str × Int)} {us : List (Option Str)} (f : Fix H A B hl kl t0 t1 nl q ns cs) (h : HouseAt K H C nm us) (s : Keep C.foot H H') : Fix H' A B hl kl t0 t1 nl q ns cs :=
  ⟨s.k _ _ f.h (h.noL f.h), s.k _ _ f.k (h.noL f.k), s.k _ _ f.a0 (h.noT f.a0), s.k _ _ f.a1 (h.noT f.a1), s.k _ _ f.n (h.noL f.n), s.k _ _ f.q (h.noL f.q)⟩
def Both (K : PySem.W.Frag) (H : Hp) (A B : Ad) (i : Nat) : Prop := ∃ nm0 us0 nm1 us1, HouseAt K H A nm0 us0 ∧ HouseAt K H B nm1 us1 ∧ nm0.length ≤ i ∧ us0.length ≤ i + 1 ∧ nm1.length ≤ i ∧ us1.length ≤ i + 1
theorem Both.same {H H' : Hp} {A B : Ad} {i : Nat} (h : Both K H A B i) (s : Same H H') : Both K H' A B i := by
  obtain ⟨a, b, c, d, h1, h2, r⟩ := h
  exact ⟨a, b, c, d, h1.same s, h2.same s, r⟩
theorem made_same {H : Hp} {x dx C : Addr} (nx : H x = none) (nd : H dx = none) : Same H (upd (upd H dx (.own x)) x (.ins C dx [])) := fun b o e => by
  rw [upd_ne (ne_of_none e nx), upd_ne (ne_of_none e nd)]
  exact e
theorem PplAt.same {H H' : Hp} {p d1 d2 : Addr} {S : Ppl} (P : PplAt K H p d1 d2 S) (s : Same H H') : PplAt K H' p d1 d2 S := P.keep (l := []) (.same s) (by simp) (by simp) (by simp)
theorem pure_law (vs : List V) (H : Hp) (Q : VK) (E : XK) (h : sp_law K vs H Q E) : t_law K { nx := fun _ H' => Q .non H', rt := Q } (start N_law vs) H := by
  unfold sp_law at h
  split at h
  · rename_i a
    obtain ⟨EK, ms, hS, hlen, k⟩ := h
    refine ⟨_, rfl, by decide, ms, hS, fun c pp H1 np1 PP s1 => ⟨PP, fun ns nl H2 l6 nok g2 k2 => ?_⟩⟩
    have s2 : Same H H2 := k2.drop s1 np1
    clear k2 s1 PP np1
    -- the houses
    intro p0 dx0 n0 nd0 ne0
    refine ⟨dx0, upd_same, fun d10 d20 H3 P0 f10 f20 k3 => ⟨rfl, ?_⟩⟩
    have m0 := made_same (C := He.ga K "People") n0 nd0
    have s3 : Same H2 H3 := k3.drop m0 n0
    intro p1 dx1 n1 nd1 ne1
    refine ⟨dx1, upd_same, fun d11 d21 H4 P1 f11 f21 k4 => ⟨rfl, ?_⟩⟩
    have m1 := made_same (C := He.ga K "People") n1 nd1
    have s4 : Same H3 H4 := k4.drop m1 n1
    have f11 : H3 d11 = none := m1.free f11
    have f21 : H3 d21 = none := m1.free f21
    have P0' := P0.same s4
    refine ⟨(by show 2 ≤ sizeLine; decide), fun hl nhl => ?_⟩
    -- what is kept
    intro b0 nb0
    intro u0 nu0
    refine ⟨upd_same, [((Sum.inl 0 : Key), V.non)], rfl, by decide, ?_⟩
    rw [upd_upd]
    refine ⟨(by show 2 ≤ sizeLine; decide), fun t0 nt0 => ?_⟩
    intro b1 nb1
    intro u1 nu1
    refine ⟨upd_same, [((Sum.inl 0 : Key), V.non)], rfl, by decide, ?_⟩
    rw [upd_upd]
    refine ⟨(by show 2 ≤ sizeLine; decide), fun t1 nt1 => ⟨(by show 2 ≤ sizeLine; decide), fun kl nkl => ?_⟩⟩
    have eU : mergeK [] [((Sum.inl 0 : Key), V.non)] = buO 0 [none] := rfl
    rw [eU] at nkl nt1 nb1 nu1 nt0 ⊢
    have w1 := same_new (o := .lst [V.ref p0, V.ref p1]) nhl
    have g_hl : (upd H4 hl (.lst [V.ref p0, V.ref p1])) hl = _ := upd_same
    generalize upd H4 hl (.lst [V.ref p0, V.ref p1]) = J1 at w1 g_hl nb0 nu0 nt0 nb1 nu1 nt1 nkl ⊢
    have w2 := same_new (o := .dK []) nb0
    have g_b0 : (upd J1 b0 (.dK [])) b0 = _ := upd_same
    generalize upd J1 b0 (.dK []) = J2 at w2 g_b0 nu0 nt0 nb1 nu1 nt1 nkl ⊢
    have w3 := same_new (o := .dK (buO 0 [none])) nu0
    have g_u0 : (upd J2 u0 (.dK (buO 0 [none]))) u0 = _ := upd_same
    generalize upd J2 u0 (.dK (buO 0 [none])) = J3 at w3 g_u0 nt0 nb1 nu1 nt1 nkl ⊢
    have w4 := same_new (o := .tup [V.ref b0, V.ref u0]) nt0
    have g_t0 : (upd J3 t0 (.tup [V.ref b0, V.ref u0])) t0 = _ := upd_same
    generalize upd J3 t0 (.tup [V.ref b0, V.ref u0]) = J4 at w4 g_t0 nb1 nu1 nt1 nkl ⊢
    have w5 := same_new (o := .dK []) nb1
    have g_b1 : (upd J4 b1 (.dK [])) b1 = _ := upd_same
    generalize upd J4 b1 (.dK []) = J5 at w5 g_b1 nu1 nt1 nkl ⊢
    have w6 := same_new (o := .dK (buO 0 [none])) nu1
    have g_u1 : (upd J5 u1 (.dK (buO 0 [none]))) u1 = _ := upd_same
    generalize upd J5 u1 (.dK (buO 0 [none])) = J6 at w6 g_u1 nt1 nkl ⊢
    have w7 := same_new (o := .tup [V.ref b1, V.ref u1]) nt1
    have g_t1 : (upd J6 t1 (.tup [V.ref b1, V.ref u1])) t1 = _ := upd_same
    generalize upd J6 t1 (.tup [V.ref b1, V.ref u1]) = J7 at w7 g_t1 nkl ⊢
    have w8 := same_new (o := .lst [V.ref t0, V.ref t1]) nkl
    have g_kl : (upd J7 kl (.lst [V.ref t0, V.ref t1])) kl = _ := upd_same
    generalize upd J7 kl (.lst [V.ref t0, V.ref t1]) = J8 at w8 g_kl ⊢
    have r7 := w7.trans w8
    have r6 := w6.trans r7
    have r5 := w5.trans r6
    have r4 := w4.trans r5
    have r3 := w3.trans r4
    have r2 := w2.trans r3
    have r1 := w1.trans r2
    obtain ⟨dy0, hp0⟩ := P0.ob
    obtain ⟨dy1, hp1⟩ := P1.ob
    let A : Ad := ⟨p0, d10, d20, b0, u0⟩
    let B : Ad := ⟨p1, d11, d21, b1, u1⟩
    have hp0' := s4 _ _ hp0
    have h10' := s4 _ _ P0.h1
    have h20' := s4 _ _ P0.h2
    have w12 := w1
    have HA : HouseAt K J8 A [] [none] := ⟨(P0'.same r1), (w3.trans r4) _ _ g_b0, r4 _ _ g_u0, Nat.le_refl _,
      (ne_of_none g_b0 nu0), (ne_of_none (w1 _ _ h10') nb0).symm, (ne_of_none (w1 _ _ h20') nb0).symm, (ne_of_none (w2 _ _ (w1 _ _ h10')) nu0).symm, (ne_of_none (w2 _ _ (w1 _ _ h20')) nu0).symm⟩
    have f4 := w1.trans (w2.trans (w3.trans w4))
    have f5 := f4.trans w5
    have HB : HouseAt K J8 B [] [none] := ⟨(P1.same r1), r6 _ _ g_b1, r7 _ _ g_u1, Nat.le_refl _,
      (ne_of_none g_b1 nu1), (ne_of_none (f4 _ _ P1.h1) nb1).symm, (ne_of_none (f4 _ _ P1.h2) nb1).symm, (ne_of_none (f5 _ _ P1.h1) nu1).symm, (ne_of_none (f5 _ _ P1.h2) nu1).symm⟩
    have c1 : ∀ {x o}, H3 x = some o → x ∉ B.foot := fun {x o} e => by
      have e4 := s4 _ _ e
      show x ∉ [p1, d11, d21, b1, u1]
      simp only [List.mem_cons, List.not_mem_nil, or_false, not_or]
      exact ⟨ne_of_none e n1, ne_of_none e f11, ne_of_none e f21, ne_of_none (f4 _ _ e4) nb1, ne_of_none (f5 _ _ e4) nu1⟩
    have dj : ∀ x ∈ A.foot, x ∉ B.foot := fun x hx => by
      have hx : x ∈ [p0, d10, d20, b0, u0] := hx
      simp only [List.mem_cons, List.not_mem_nil, or_false] at hx
      rcases hx with rfl | rfl | rfl | rfl | rfl
      · exact c1 hp0
      · exact c1 P0.h1
      · exact c1 P0.h2
      · show x ∉ [p1, d11, d21, b1, u1]
        simp only [List.mem_cons, List.not_mem_nil, or_false, not_or]
        exact ⟨(ne_of_none (w1 _ _ hp1) nb0).symm, (ne_of_none (w1 _ _ P1.h1) nb0).symm, (ne_of_none (w1 _ _ P1.h2) nb0).symm, ne_of_none (w4 _ _ (w3 _ _ g_b0)) nb1, ne_of_none (w5 _ _ (w4 _ _ (w3 _ _ g_b0))) nu1⟩
      · show x ∉ [p1, d11, d21, b1, u1]
        have w2' := w1.trans w2
        simp only [List.mem_cons, List.not_mem_nil, or_false, not_or]
        exact ⟨(ne_of_none (w2' _ _ hp1) nu0).symm, (ne_of_none (w2' _ _ P1.h1) nu0).symm, (ne_of_none (w2' _ _ P1.h2) nu0).symm, ne_of_none (w4 _ _ g_u0) nb1, ne_of_none (w5 _ _ (w4 _ _ g_u0)) nu1⟩
    have g_nl := r1 _ _ (s4 _ _ (s3 _ _ g2))
    have sA := ((s2.trans s3).trans s4).trans r1
    refine ⟨_, rfl, _, rfl, _, rfl, a, _, rfl, sA.seq hS, fun q hq => ?_⟩
    obtain ⟨cs, ecs, hcs⟩ := cut_ints (ms := ms) (y := 1) (z := 61) 60 hlen (by decide) rfl
    rw [ecs]
    have sq := same_new (o := .lst (cs.map V.int)) hq
    have F0 : Fix (upd J8 q (.lst (cs.map V.int))) A B hl kl t0 t1 nl q ns cs := ⟨sq _ _ (r2 _ _ g_hl), sq _ _ g_kl, sq _ _ (r5 _ _ g_t0), sq _ _ (w8 _ _ g_t1), sq _ _ g_nl, upd_same⟩
    have B0 : Both K (upd J8 q (.lst (cs.map V.int))) A B 0 := ⟨[], [none], [], [none], HA.same sq, HB.same sq, by decide, by decide, by decide, by decide⟩
    generalize upd J8 q (.lst (cs.map V.int)) = J9 at F0 B0 ⊢
    refine ⟨q, rfl, ⟨_, SqL.of F0.q⟩, for_list (K := K) (a := q) (xs := cs.map V.int)
      (fun i σ H' => ∃ v4 v5 v6 v7 v8 v9 v10 v11, σ = [some (.ref a), some (.ref nl), some (.ref hl), some (.ref kl), v4, v5, v6, v7, v8, v9, v10, v11] ∧ Fix H' A B hl kl t0 t1 nl q ns cs ∧ Both K H' A B i)
      ⟨_, _, _, _, _, _, _, _, rfl, F0, B0⟩ (fun i σ H' _ ⟨_, _, _, _, _, _, _, _, _, f, _⟩ => SqL.of f.q) ?_ ?_⟩
    · rintro i y σ H' hi ⟨v4, v5, v6, v7, v8, v9, v10, v11, rfl, F, BB⟩
      have hi60 : i < 60 := by
        have := (List.getElem?_eq_some_iff.mp hi).1
        rw [List.length_map] at this
        omega
      obtain ⟨c, rfl⟩ := ints_at hi
      refine ⟨_, rfl, fun pp K1 np PP z1 => ?_⟩
      refine ⟨_, rfl, PP, by decide, by decide, fun kk K2 kk0 kk2 P2 z2 => ?_⟩
      have y2 := z2.drop z1 np
      refine ⟨_, rfl, _, rfl, P2, by decide, by decide, fun e K3 e0 e6 P3 z3 => ?_⟩
      have y3 := (z2.trans z3).drop z1 np
      have F3 := F.same y3
      obtain ⟨v, ev, x, rfl, hx⟩ := menu (xs := ns.map V.str) (n := 6) (fun v => ∃ x, v = V.str x ∧ nmOk x) (by rw [List.length_map]; exact l6) e0 e6 (fun v hv => by
        obtain ⟨x, hx, rfl⟩ := List.mem_map.mp hv
        exact ⟨x, rfl, nok x hx⟩)
      refine ⟨nl, _, _, _, rfl, rfl, SqL.of F3.n, ev, ?_⟩
      refine ⟨_, rfl, P3, by decide, by decide, fun w K4 w0 w4 P4 z4 => ?_⟩
      have z4' := (z2.trans z3).trans z4
      have F4 := F.same (z4'.drop z1 np)
      have B4 := BB.same (z4'.drop z1 np)
      -- one of the houses is chosen
      have go : ∀ (C : Ad) (t : Addr) (nm : List (Str × Int)) (us : List (Option Str)), HouseAt K K4 C nm us → nm.length ≤ i → us.length ≤ i + 1 → atI [V.ref t0, V.ref t1] kk = some (.ref t) → atI [V.ref A.p, V.ref B.p] kk = some (.ref C.p) → K4 t = some (.tup [.ref C.b, .ref C.u]) →
          (∀ nm' us' L1, HouseAt K L1 C nm' us' → nm'.length ≤ nm.length + 1 → us'.length ≤ us.length + 1 → (∃ L0, Keep [pp] K4 L0 ∧ Keep C.foot L0 L1) → Both K L1 A B (i + 1)) →
          ∀ D : Ends, (∀ v8 v9 v10 v11 L, Fix L A B hl kl t0 t1 nl q ns cs → Both K L A B (i + 1) → D.nx [some (.ref a), some (.ref nl), some (.ref hl), some (.ref kl), some (.int c), some (.ref pp), some (.int kk), some (.str x), v8, v9, v10, v11] L) →
          (tSeq (tAsg (tCB rLenDc (tCons (tOp (rIxT K) (tOp (rIxL K) (tVar 3) (tVar 6)) (tC (.int 1))) tNil)) (gName 9))
  (tSeq (tAsg (tCl (sp__law_draw K) [] ES0 (tCons (tVar 5) (tCons (tOp rAddI (tVar 9) (tC (.int 4))) tNil))) (gName 10))
  (tSeq (tIfS (tTest (tOp rGeI (tVar 10) (tVar 9))) (tAsg (tOp (rIxL K) (tLst (tCons (tC (.int 0)) (tCons (tUn (rU fun i => .int (-i)) (tC (.int 1))) (tCons (tOp rAddI (tVar 9) (tC (.int 2))) (tCons (tOp rPowI (tC (.int 10)) (tC (.int 40))) tNil))))) (tOp rSubI (tVar 10) (tVar 9))) (gName 10)) tNext)
  (tSeq (tIfS (tNot (tB (tCl (sp__law_done K) [] ES0 (tCons (tOp (rIxL K) (tVar 2) (tVar 6)) (tCons (tOp (rIxL K) (tVar 3) (tVar 6)) (tCons (tVar 7) (tCons (tVar 8) (tCons (tVar 10) tNil)))))))) (tRet (tC (.bl false))) tNext)
  (tFor (iRng1 (tCons (tC (.int 2)) tNil)) (gName 11) (tIfS (tNot (tB (tCl (sp__law_stands K) [] ES0 (tCons (tOp (rIxL K) (tVar 2) (tVar 11)) (tCons (tOp (rIxL K) (tVar 3) (tVar 11)) (tCons (tVar 1) tNil)))))) (tRet (tC (.bl false))) tNext))))))
          D [some (.ref a), some (.ref nl), some (.ref hl), some (.ref kl), some (.int c), some (.ref pp), some (.int kk), some (.str x), some (.int w), v9, v10, v11] K4 := by
        intro C t nm us HC hn hu at1 at2 ht fin D hD
        refine ⟨_, rfl, _, rfl, kl, _, _, _, rfl, rfl, SqL.of F4.k, at1, t, _, _, _, rfl, rfl, .inl (.inl ht), rfl, C.u, _, rfl, HC.hu, ?_⟩
        refine ⟨_, rfl, _, rfl, _, _, rfl, rfl, P4, by rw [buO_len]; omega, by rw [buO_len]; omega, fun n K5 n0 nm5 P5 z5 => ?_⟩
        have npp : ∀ y o, H' y = some o → y ≠ pp := fun y o e => ne_of_none e np
        have z5' := z4'.trans z5
        have y5 := z5'.drop z1 np
        have F5 := F.same y5
        have HC4 := HC
        -- the chosen house in K5
        obtain ⟨pu, pv, pe, _⟩ := id P4
        have nC : ∀ y ∈ C.foot, y ∉ [pp] := fun y hy hq => by
          rw [List.mem_singleton.mp hq] at hy
          exact HC.noL pe hy
        have HC5 := HC.keep z5 nC
        have npt : t ≠ pp := ne_of ht pe (by intro q; cases q)
        have ht5 := z5.k _ _ ht (by simp [npt])
        have done : ∀ (m : Int) (L0 : Hp), Same K5 L0 → ∀ v9,
            (tSeq (tIfS (tNot (tB (tCl (sp__law_done K) [] ES0 (tCons (tOp (rIxL K) (tVar 2) (tVar 6)) (tCons (tOp (rIxL K) (tVar 3) (tVar 6)) (tCons (tVar 7) (tCons (tVar 8) (tCons (tVar 10) tNil)))))))) (tRet (tC (.bl false))) tNext)
  (tFor (iRng1 (tCons (tC (.int 2)) tNil)) (gName 11) (tIfS (tNot (tB (tCl (sp__law_stands K) [] ES0 (tCons (tOp (rIxL K) (tVar 2) (tVar 11)) (tCons (tOp (rIxL K) (tVar 3) (tVar 11)) (tCons (tVar 1) tNil)))))) (tRet (tC (.bl false))) tNext)))
            D [some (.ref a), some (.ref nl), some (.ref hl), some (.ref kl), some (.int c), some (.ref pp), some (.int kk), some (.str x), some (.int w), v9, some (.int m), v11] L0 := by
          intro m L0 sL v9
          have FL := F5.same sL
          have HL := HC5.same sL
          refine ⟨_, rfl, _, rfl, hl, _, _, _, rfl, rfl, SqL.of FL.h, at2, _, rfl, _, rfl, kl, _, _, _, rfl, rfl, SqL.of FL.k, at1, _, rfl, _, rfl, _, rfl, EK, hx, C, nm, us, rfl, HL, .inl (.inl (sL _ _ ht5)), by omega, by omega, fun nm' us' L1 HL1 hn1 hu1 kL1 => ⟨_, rfl, iteF ?_⟩⟩
          have FL1 := FL.keep HL kL1
          have BL1 := fin nm' us' L1 HL1 hn1 hu1 ⟨L0, z5.trans (.same sL), kL1⟩
          refine ⟨2, rfl, by decide, by decide, for_range (lo := 0) (n := 2) (fun j σ L => ∃ v11, σ = [some (.ref a), some (.ref nl), some (.ref hl), some (.ref kl), some (.int c), some (.ref pp), some (.int kk), some (.str x), some (.int w), v9, some (.int m), v11] ∧ Fix L A B hl kl t0 t1 nl q ns cs ∧ Both K L A B (i + 1)) ⟨_, rfl, FL1, BL1⟩ ?_ ?_⟩
          · rintro j σ L hj ⟨v11, rfl, FJ, BJ⟩
            obtain ⟨nm0, us0, nm1, us1, H0, H1', b1, b2, b3, b4⟩ := id BJ
            match j, hj with
            | 0, _ =>
              exact ⟨_, rfl, _, rfl, hl, _, _, V.ref A.p, rfl, rfl, SqL.of FJ.h, rfl, _, rfl, _, rfl, kl, _, _, V.ref t0, rfl, rfl, SqL.of FJ.k, rfl, _, rfl, A, nm0, us0, ns, rfl, H0, .inl (.inl FJ.a0), SqL.of FJ.n, nok, by omega, by omega, fun L' s' => ⟨_, rfl, iteF ⟨_, rfl, FJ.same s', BJ.same s'⟩⟩⟩
            | 1, _ =>
              exact ⟨_, rfl, _, rfl, hl, _, _, V.ref B.p, rfl, rfl, SqL.of FJ.h, rfl, _, rfl, _, rfl, kl, _, _, V.ref t1, rfl, rfl, SqL.of FJ.k, rfl, _, rfl, B, nm1, us1, ns, rfl, H1', .inl (.inl FJ.a1), SqL.of FJ.n, nok, by omega, by omega, fun L' s' => ⟨_, rfl, iteF ⟨_, rfl, FJ.same s', BJ.same s'⟩⟩⟩
            | j + 2, h => omega
          · rintro σ L ⟨v11, rfl, FJ, BJ⟩
            exact hD _ _ _ _ L FJ BJ
        refine ⟨_, rfl, _, rfl, _, _, rfl, rfl, _, rfl, ite2 (fun hge => ?_) (fun _ => done n K5 (Same.refl K5) _)⟩
        have hge := of_decide_eq_true hge
        refine ⟨_, rfl, _, rfl, _, _, rfl, rfl, _, _, rfl, rfl, ⟨by decide, by decide, by decide⟩, (by show 4 ≤ sizeLine; decide), fun ql nql => ?_⟩
        refine ⟨_, rfl, _, rfl, _, _, rfl, rfl, ?_⟩
        obtain ⟨v, ev, m, rfl⟩ := menu (n := 4) (d := n - ((buO 0 us).length : Int)) (fun v => ∃ m : Int, v = .int m) rfl (by omega) (by omega) (xs := [V.int 0, V.int (-1), V.int (((buO 0 us).length : Int) + 2), V.int ((10 : Int) ^ (40 : Int).toNat)]) (by
          intro v hv
          simp only [List.mem_cons, List.not_mem_nil, or_false] at hv
          rcases hv with rfl | rfl | rfl | rfl <;> exact ⟨_, rfl⟩)
        exact ⟨ql, _, _, _, rfl, rfl, SqL.of upd_same, ev, done m _ (same_new nql) _⟩
      obtain ⟨nm0, us0, nm1, us1, H0, H1', b1, b2, b3, b4⟩ := id B4
      obtain ⟨pu, pv, pe, _⟩ := id P4
      have nP : ∀ {C : Ad} {nm us}, HouseAt K K4 C nm us → ∀ y ∈ C.foot, y ∉ [pp] := fun {C nm us} HC y hy hq => by
        rw [List.mem_singleton.mp hq] at hy
        exact HC.noL pe hy
      have hkk : kk = 0 ∨ kk = 1 := by omega
      rcases hkk with rfl | rfl
      · exact go A t0 nm0 us0 H0 b1 b2 rfl rfl F4.a0 (fun nm' us' L1 HL1 hn hu ⟨L0, kp, kf⟩ => ⟨nm', us', nm1, us1, HL1, (H1'.keep kp (nP H1')).keep kf (fun y hy hy' => dj y hy' hy), by omega, by omega, by omega, by omega⟩) _ (fun v8 v9 v10 v11 L FL BL => ⟨_, _, _, _, _, _, _, _, rfl, FL, BL⟩)
      · exact go B t1 nm1 us1 H1' b3 b4 rfl rfl F4.a1 (fun nm' us' L1 HL1 hn hu ⟨L0, kp, kf⟩ => ⟨nm0, us0, nm', us', (H0.keep kp (nP H0)).keep kf dj, HL1, by omega, by omega, by omega, by omega⟩) _ (fun v8 v9 v10 v11 L FL BL => ⟨_, _, _, _, _, _, _, _, rfl, FL, BL⟩)
    · rintro σ H' ⟨v4, v5, v6, v7, v8, v9, v10, v11, rfl, F, BB⟩
      exact k H'
  · exact h.elim
theorem law_asks (K : PySem.W.Frag) (EK : ErrL er12 K) (H : Hp) (a : Addr) (ns : List Int) (hl : ns.length ≤ 63) (hO : Only H) (hS : SqL K H a (ns.map V.int)) : sp_law K [.ref a] H (fun v _ => v = .bl true) (fun _ _ _ => False) := ⟨EK, ns, hS, hl, fun _ => rfl⟩
end G

set_option Elab.async false
set_option linter.all false
set_option maxRecDepth 100000
set_option maxHeartbeats 4000000

namespace G
open PySem PySem.Spec PyProof.Rows L2 U
def top (i : Nat) : Stmt := PySem.Challenge.pw_forgethall_k12_whole_cut_off_and_wiped.main.body.getD i (.Pass ⟨0, 0, 0, 0⟩)
abbrev s_People___init__ : Stmt := inClass (top 8) 0
abbrev M_People___init__ : List Str := ["self"]
theorem sc_People___init__ : FnScope M_People___init__ ["self"] (defScope s_People___init__) := ⟨rfl, rfl, rfl, by decide +kernel, rfl, by decide +kernel, by decide +kernel⟩
abbrev s__law_cell : Stmt := top 10
abbrev M__law_cell : List Str := ["_law_script", "_law_k"]
theorem sc__law_cell : FnScope M__law_cell ["_law_script", "_law_k"] (defScope s__law_cell) := ⟨rfl, rfl, rfl, by decide +kernel, rfl, by decide +kernel, by decide +kernel⟩
abbrev s_is_name : Stmt := top 7
abbrev M_is_name : List Str := ["thing", "letter"]
theorem sc_is_name : FnScope M_is_name ["thing"] (defScope s_is_name) := ⟨rfl, rfl, rfl, by decide +kernel, rfl, by decide +kernel, by decide +kernel⟩
abbrev s_People_number_of : Stmt := inClass (top 8) 1
abbrev M_People_number_of : List Str := ["self", "name"]
theorem sc_People_number_of : FnScope M_People_number_of ["self", "name"] (defScope s_People_number_of) := ⟨rfl, rfl, rfl, by decide +kernel, rfl, by decide +kernel, by decide +kernel⟩
abbrev s_People_wipe : Stmt := inClass (top 8) 5
abbrev M_People_wipe : List Str := ["self", "number", "name"]
theorem sc_People_wipe : FnScope M_People_wipe ["self", "number"] (defScope s_People_wipe) := ⟨rfl, rfl, rfl, by decide +kernel, rfl, by decide +kernel, by decide +kernel⟩
abbrev s_People_known : Stmt := inClass (top 8) 2
abbrev M_People_known : List Str := ["self", "name"]
theorem sc_People_known : FnScope M_People_known ["self", "name"] (defScope s_People_known) := ⟨rfl, rfl, rfl, by decide +kernel, rfl, by decide +kernel, by decide +kernel⟩
abbrev s_People_cut_off : Stmt := inClass (top 8) 3
abbrev M_People_cut_off : List Str := ["self", "name", "number"]
theorem sc_People_cut_off : FnScope M_People_cut_off ["self", "name"] (defScope s_People_cut_off) := ⟨rfl, rfl, rfl, by decide +kernel, rfl, by decide +kernel, by decide +kernel⟩
abbrev s__law_cut : Stmt := top 15
abbrev M__law_cut : List Str := ["_law_people", "_law_name", "_law_found", "e"]
theorem sc__law_cut : FnScope M__law_cut ["_law_people", "_law_name"] (defScope s__law_cut) := ⟨rfl, rfl, rfl, by decide +kernel, rfl, by decide +kernel, by decide +kernel⟩
abbrev s__law_done : Stmt := top 16
abbrev M__law_done : List Str := ["_law_people", "_law_kept", "_law_name", "_law_way", "_law_number", "_law_by_name", "_law_by_number", "_law_due", "_law_found"]
theorem sc__law_done : FnScope M__law_done ["_law_people", "_law_kept", "_law_name", "_law_way", "_law_number"] (defScope s__law_done) := ⟨rfl, rfl, rfl, by decide +kernel, rfl, by decide +kernel, by decide +kernel⟩
abbrev s__law_draw : Stmt := top 12
abbrev M__law_draw : List Str := ["_law_pot_here", "_law_many", "_law_digit"]
theorem sc__law_draw : FnScope M__law_draw ["_law_pot_here", "_law_many"] (defScope s__law_draw) := ⟨rfl, rfl, rfl, by decide +kernel, rfl, by decide +kernel, by decide +kernel⟩
abbrev s__law_word : Stmt := top 13
abbrev M__law_word : List Str := ["_law_pot_here", "_law_k"]
theorem sc__law_word : FnScope M__law_word ["_law_pot_here"] (defScope s__law_word) := ⟨rfl, rfl, rfl, by decide +kernel, rfl, by decide +kernel, by decide +kernel⟩
abbrev s__law_names : Stmt := top 14
abbrev M__law_names : List Str := ["_law_pot_here", "_law_found", "_law_word_here"]
theorem sc__law_names : FnScope M__law_names ["_law_pot_here"] (defScope s__law_names) := ⟨rfl, rfl, rfl, by decide +kernel, rfl, by decide +kernel, by decide +kernel⟩
abbrev s__law_pot : Stmt := top 11
abbrev M__law_pot : List Str := ["_law_cell_here"]
theorem sc__law_pot : FnScope M__law_pot ["_law_cell_here"] (defScope s__law_pot) := ⟨rfl, rfl, rfl, by decide +kernel, rfl, by decide +kernel, by decide +kernel⟩
abbrev s_People_name_of : Stmt := inClass (top 8) 4
abbrev M_People_name_of : List Str := ["self", "number"]
theorem sc_People_name_of : FnScope M_People_name_of ["self", "number"] (defScope s_People_name_of) := ⟨rfl, rfl, rfl, by decide +kernel, rfl, by decide +kernel, by decide +kernel⟩
abbrev s_People_numbers : Stmt := inClass (top 8) 6
abbrev M_People_numbers : List Str := ["self"]
theorem sc_People_numbers : FnScope M_People_numbers ["self"] (defScope s_People_numbers) := ⟨rfl, rfl, rfl, by decide +kernel, rfl, by decide +kernel, by decide +kernel⟩
abbrev s__law_stands : Stmt := top 17
abbrev M__law_stands : List Str := ["_law_people", "_law_kept", "_law_names_here", "_law_by_name", "_law_by_number", "_law_number", "_law_found", "_law_name"]
theorem sc__law_stands : FnScope M__law_stands ["_law_people", "_law_kept", "_law_names_here"] (defScope s__law_stands) := ⟨rfl, rfl, rfl, by decide +kernel, rfl, by decide +kernel, by decide +kernel⟩
abbrev s_law : Stmt := top 18
abbrev M_law : List Str := ["_law_script", "_law_names_here", "_law_houses", "_law_kept", "_law_cell_here", "_law_pot_here", "_law_k", "_law_name", "_law_way", "_law_many", "_law_number", "_law_j"]
theorem sc_law : FnScope M_law ["_law_script"] (defScope s_law) := ⟨rfl, rfl, rfl, by decide +kernel, rfl, by decide +kernel, by decide +kernel⟩
def df__law_cell : He.DefD := ⟨("_law_cell", none), "_law_cell", "_law_cell", defArgs s__law_cell, defBody s__law_cell, defScope s__law_cell, [], []⟩
def df_is_name : He.DefD := ⟨("is_name", none), "is_name", "is_name", defArgs s_is_name, defBody s_is_name, defScope s_is_name, [], []⟩
def df__law_cut : He.DefD := ⟨("_law_cut", none), "_law_cut", "_law_cut", defArgs s__law_cut, defBody s__law_cut, defScope s__law_cut, [], []⟩
def df__law_done : He.DefD := ⟨("_law_done", none), "_law_done", "_law_done", defArgs s__law_done, defBody s__law_done, defScope s__law_done, [], []⟩
def df__law_draw : He.DefD := ⟨("_law_draw", none), "_law_draw", "_law_draw", defArgs s__law_draw, defBody s__law_draw, defScope s__law_draw, [], []⟩
def df__law_word : He.DefD := ⟨("_law_word", none), "_law_word", "_law_word", defArgs s__law_word, defBody s__law_word, defScope s__law_word, [], []⟩
def df__law_names : He.DefD := ⟨("_law_names", none), "_law_names", "_law_names", defArgs s__law_names, defBody s__law_names, defScope s__law_names, [], []⟩
def df__law_pot : He.DefD := ⟨("_law_pot", none), "_law_pot", "_law_pot", defArgs s__law_pot, defBody s__law_pot, defScope s__law_pot, [], []⟩
def df__law_stands : He.DefD := ⟨("_law_stands", none), "_law_stands", "_law_stands", defArgs s__law_stands, defBody s__law_stands, defScope s__law_stands, [], []⟩
def df_law : He.DefD := ⟨("law", none), "law", "law", defArgs s_law, defBody s_law, defScope s_law, [], []⟩
def df_People___init__ : He.DefD := ⟨("People", some "__init__"), "__init__", "People.__init__", defArgs s_People___init__, defBody s_People___init__, defScope s_People___init__, [], []⟩
def df_People_cut_off : He.DefD := ⟨("People", some "cut_off"), "cut_off", "People.cut_off", defArgs s_People_cut_off, defBody s_People_cut_off, defScope s_People_cut_off, [], []⟩
def df_People_known : He.DefD := ⟨("People", some "known"), "known", "People.known", defArgs s_People_known, defBody s_People_known, defScope s_People_known, [], []⟩
def df_People_name_of : He.DefD := ⟨("People", some "name_of"), "name_of", "People.name_of", defArgs s_People_name_of, defBody s_People_name_of, defScope s_People_name_of, [], []⟩
def df_People_number_of : He.DefD := ⟨("People", some "number_of"), "number_of", "People.number_of", defArgs s_People_number_of, defBody s_People_number_of, defScope s_People_number_of, [], []⟩
def df_People_numbers : He.DefD := ⟨("People", some "numbers"), "numbers", "People.numbers", defArgs s_People_numbers, defBody s_People_numbers, defScope s_People_numbers, [], []⟩
def df_People_wipe : He.DefD := ⟨("People", some "wipe"), "wipe", "People.wipe", defArgs s_People_wipe, defBody s_People_wipe, defScope s_People_wipe, [], []⟩
def fa : List He.Fa := [.free "len", .free "range", .cls "People", .noat "People" "by_name", .noat "People" "by_number", .noat "People" "many", .free "list", .free "max", .glo "NoName", .exc "NoName", .free "str", .free "isinstance", .int "MOST_LETTERS" 8, .str "LETTERS" "abcdefghijklmnopqrstuvwxyz", .free "all", .glo "HallError", .glo "NoPerson", .exc "NoPerson", .free "divmod", .free "abs", .free "sorted", .glo "_law_cell", .glo "is_name", .glo "_law_cut", .glo "_law_done", .glo "_law_draw", .glo "_law_word", .glo "_law_names", .glo "_law_pot", .glo "_law_stands", .glo "law", .glo "People", .mkr "People", .meth "People" "cut_off", .meth "People" "known", .meth "People" "name_of", .meth "People" "number_of", .meth "People" "numbers", .meth "People" "wipe"]
def fn : List He.DefD := [df__law_cell, df_is_name, df__law_cut, df__law_done, df__law_draw, df__law_word, df__law_names, df__law_pot, df__law_stands, df_law, df_People___init__, df_People_cut_off, df_People_known, df_People_name_of, df_People_number_of, df_People_numbers, df_People_wipe]
def ex : PySem.W.Frag → Bool := G.ex12
structure Txt (w : World) (K : PySem.W.Frag) (mg : Str → Option Value) : Prop where
  ex : ∃ h : Heap, K.In h ∧ h.Ns mainGlobals mg ∧ He.SaysX fa fn [] [] ex w h K
section
variable {P : Program} {w : World} {K : PySem.W.Frag} {mg : Str → Option Value} {base : Heap}
theorem Txt.b_len (T : Txt w K mg) : mg "len" = none := by
  obtain ⟨h, X, G, c⟩ := T.ex
  exact He.free_ok X G (c.t.d.fact 0 (f := .free "len") rfl)
theorem Txt.b_range (T : Txt w K mg) : mg "range" = none := by
  obtain ⟨h, X, G, c⟩ := T.ex
  exact He.free_ok X G (c.t.d.fact 1 (f := .free "range") rfl)
theorem Txt.cl_People (T : Txt w K mg) : Cls K (He.ga K "People") := by
  obtain ⟨h, X, G, c⟩ := T.ex
  exact He.cls_ok (c.t.d.fact 2 (f := .cls "People") rfl)
theorem Txt.n_People_by_name (T : Txt w K mg) : NoAttr K (He.ga K "People") "by_name" := by
  obtain ⟨h, X, G, c⟩ := T.ex
  exact He.noat_ok (c.t.d.fact 3 (f := .noat "People" "by_name") rfl)
theorem Txt.n_People_by_number (T : Txt w K mg) : NoAttr K (He.ga K "People") "by_number" := by
  obtain ⟨h, X, G, c⟩ := T.ex
  exact He.noat_ok (c.t.d.fact 4 (f := .noat "People" "by_number") rfl)
theorem Txt.n_People_many (T : Txt w K mg) : NoAttr K (He.ga K "People") "many" := by
  obtain ⟨h, X, G, c⟩ := T.ex
  exact He.noat_ok (c.t.d.fact 5 (f := .noat "People" "many") rfl)
theorem Txt.b_list (T : Txt w K mg) : mg "list" = none := by
  obtain ⟨h, X, G, c⟩ := T.ex
  exact He.free_ok X G (c.t.d.fact 6 (f := .free "list") rfl)
theorem Txt.b_max (T : Txt w K mg) : mg "max" = none := by
  obtain ⟨h, X, G, c⟩ := T.ex
  exact He.free_ok X G (c.t.d.fact 7 (f := .free "max") rfl)
theorem Txt.g_NoName (T : Txt w K mg) : mg "NoName" = some (.ref (He.ga K "NoName")) := by
  obtain ⟨h, X, G, c⟩ := T.ex
  exact He.glo_ok X G (c.t.d.fact 8 (f := .glo "NoName") rfl)
theorem Txt.e_NoName (T : Txt w K mg) : ErrC K (He.ga K "NoName") := by
  obtain ⟨h, X, G, c⟩ := T.ex
  exact (fun z => ⟨z.1, z.2.1, z.2.2.1, z.2.2.2⟩ : _ → ErrC K (He.ga K "NoName")) (He.exc_ok (c.t.d.fact 9 (f := .exc "NoName") rfl))
theorem Txt.b_str (T : Txt w K mg) : mg "str" = none := by
  obtain ⟨h, X, G, c⟩ := T.ex
  exact He.free_ok X G (c.t.d.fact 10 (f := .free "str") rfl)
theorem Txt.b_isinstance (T : Txt w K mg) : mg "isinstance" = none := by
  obtain ⟨h, X, G, c⟩ := T.ex
  exact He.free_ok X G (c.t.d.fact 11 (f := .free "isinstance") rfl)
theorem Txt.v_MOST_LETTERS (T : Txt w K mg) : ∃ t, mg "MOST_LETTERS" = some (.int 8 t) := by
  obtain ⟨h, X, G, c⟩ := T.ex
  exact He.int_ok X G (c.t.d.fact 12 (f := .int "MOST_LETTERS" 8) rfl)
theorem Txt.v_LETTERS (T : Txt w K mg) : ∃ t, mg "LETTERS" = some (.str "abcdefghijklmnopqrstuvwxyz" t) := by
  obtain ⟨h, X, G, c⟩ := T.ex
  exact He.str_ok X G (c.t.d.fact 13 (f := .str "LETTERS" "abcdefghijklmnopqrstuvwxyz") rfl)
theorem Txt.b_all (T : Txt w K mg) : mg "all" = none := by
  obtain ⟨h, X, G, c⟩ := T.ex
  exact He.free_ok X G (c.t.d.fact 14 (f := .free "all") rfl)
theorem Txt.g_HallError (T : Txt w K mg) : mg "HallError" = some (.ref (He.ga K "HallError")) := by
  obtain ⟨h, X, G, c⟩ := T.ex
  exact He.glo_ok X G (c.t.d.fact 15 (f := .glo "HallError") rfl)
theorem Txt.g_NoPerson (T : Txt w K mg) : mg "NoPerson" = some (.ref (He.ga K "NoPerson")) := by
  obtain ⟨h, X, G, c⟩ := T.ex
  exact He.glo_ok X G (c.t.d.fact 16 (f := .glo "NoPerson") rfl)
theorem Txt.e_NoPerson (T : Txt w K mg) : ErrC K (He.ga K "NoPerson") := by
  obtain ⟨h, X, G, c⟩ := T.ex
  exact (fun z => ⟨z.1, z.2.1, z.2.2.1, z.2.2.2⟩ : _ → ErrC K (He.ga K "NoPerson")) (He.exc_ok (c.t.d.fact 17 (f := .exc "NoPerson") rfl))
theorem Txt.b_divmod (T : Txt w K mg) : mg "divmod" = none := by
  obtain ⟨h, X, G, c⟩ := T.ex
  exact He.free_ok X G (c.t.d.fact 18 (f := .free "divmod") rfl)
theorem Txt.b_abs (T : Txt w K mg) : mg "abs" = none := by
  obtain ⟨h, X, G, c⟩ := T.ex
  exact He.free_ok X G (c.t.d.fact 19 (f := .free "abs") rfl)
theorem Txt.b_sorted (T : Txt w K mg) : mg "sorted" = none := by
  obtain ⟨h, X, G, c⟩ := T.ex
  exact He.free_ok X G (c.t.d.fact 20 (f := .free "sorted") rfl)
theorem Txt.g__law_cell (T : Txt w K mg) : mg "_law_cell" = some (.ref (He.ga K "_law_cell")) := by
  obtain ⟨h, X, G, c⟩ := T.ex
  exact He.glo_ok X G (c.t.d.fact 21 (f := .glo "_law_cell") rfl)
theorem Txt.g_is_name (T : Txt w K mg) : mg "is_name" = some (.ref (He.ga K "is_name")) := by
  obtain ⟨h, X, G, c⟩ := T.ex
  exact He.glo_ok X G (c.t.d.fact 22 (f := .glo "is_name") rfl)
theorem Txt.g__law_cut (T : Txt w K mg) : mg "_law_cut" = some (.ref (He.ga K "_law_cut")) := by
  obtain ⟨h, X, G, c⟩ := T.ex
  exact He.glo_ok X G (c.t.d.fact 23 (f := .glo "_law_cut") rfl)
theorem Txt.g__law_done (T : Txt w K mg) : mg "_law_done" = some (.ref (He.ga K "_law_done")) := by
  obtain ⟨h, X, G, c⟩ := T.ex
  exact He.glo_ok X G (c.t.d.fact 24 (f := .glo "_law_done") rfl)
theorem Txt.g__law_draw (T : Txt w K mg) : mg "_law_draw" = some (.ref (He.ga K "_law_draw")) := by
  obtain ⟨h, X, G, c⟩ := T.ex
  exact He.glo_ok X G (c.t.d.fact 25 (f := .glo "_law_draw") rfl)
theorem Txt.g__law_word (T : Txt w K mg) : mg "_law_word" = some (.ref (He.ga K "_law_word")) := by
  obtain ⟨h, X, G, c⟩ := T.ex
  exact He.glo_ok X G (c.t.d.fact 26 (f := .glo "_law_word") rfl)
theorem Txt.g__law_names (T : Txt w K mg) : mg "_law_names" = some (.ref (He.ga K "_law_names")) := by
  obtain ⟨h, X, G, c⟩ := T.ex
  exact He.glo_ok X G (c.t.d.fact 27 (f := .glo "_law_names") rfl)
theorem Txt.g__law_pot (T : Txt w K mg) : mg "_law_pot" = some (.ref (He.ga K "_law_pot")) := by
  obtain ⟨h, X, G, c⟩ := T.ex
  exact He.glo_ok X G (c.t.d.fact 28 (f := .glo "_law_pot") rfl)
theorem Txt.g__law_stands (T : Txt w K mg) : mg "_law_stands" = some (.ref (He.ga K "_law_stands")) := by
  obtain ⟨h, X, G, c⟩ := T.ex
  exact He.glo_ok X G (c.t.d.fact 29 (f := .glo "_law_stands") rfl)
theorem Txt.g_law (T : Txt w K mg) : mg "law" = some (.ref (He.ga K "law")) := by
  obtain ⟨h, X, G, c⟩ := T.ex
  exact He.glo_ok X G (c.t.d.fact 30 (f := .glo "law") rfl)
theorem Txt.g_People (T : Txt w K mg) : mg "People" = some (.ref (He.ga K "People")) := by
  obtain ⟨h, X, G, c⟩ := T.ex
  exact He.glo_ok X G (c.t.d.fact 31 (f := .glo "People") rfl)
theorem Txt.mk_People (T : Txt w K mg) : Mk K (He.ga K "People") (He.ma K (He.ga K "People") "__init__") := by
  obtain ⟨h, X, G, c⟩ := T.ex
  exact He.mkr_ok (c.t.d.fact 32 (f := .mkr "People") rfl)
theorem Txt.m_People_cut_off (T : Txt w K mg) : Meth K (He.ga K "People") "cut_off" (He.ma K (He.ga K "People") "cut_off") := by
  obtain ⟨h, X, G, c⟩ := T.ex
  exact He.meth_ok (c.t.d.fact 33 (f := .meth "People" "cut_off") rfl)
theorem Txt.m_People_known (T : Txt w K mg) : Meth K (He.ga K "People") "known" (He.ma K (He.ga K "People") "known") := by
  obtain ⟨h, X, G, c⟩ := T.ex
  exact He.meth_ok (c.t.d.fact 34 (f := .meth "People" "known") rfl)
theorem Txt.m_People_name_of (T : Txt w K mg) : Meth K (He.ga K "People") "name_of" (He.ma K (He.ga K "People") "name_of") := by
  obtain ⟨h, X, G, c⟩ := T.ex
  exact He.meth_ok (c.t.d.fact 35 (f := .meth "People" "name_of") rfl)
theorem Txt.m_People_number_of (T : Txt w K mg) : Meth K (He.ga K "People") "number_of" (He.ma K (He.ga K "People") "number_of") := by
  obtain ⟨h, X, G, c⟩ := T.ex
  exact He.meth_ok (c.t.d.fact 36 (f := .meth "People" "number_of") rfl)
theorem Txt.m_People_numbers (T : Txt w K mg) : Meth K (He.ga K "People") "numbers" (He.ma K (He.ga K "People") "numbers") := by
  obtain ⟨h, X, G, c⟩ := T.ex
  exact He.meth_ok (c.t.d.fact 37 (f := .meth "People" "numbers") rfl)
theorem Txt.m_People_wipe (T : Txt w K mg) : Meth K (He.ga K "People") "wipe" (He.ma K (He.ga K "People") "wipe") := by
  obtain ⟨h, X, G, c⟩ := T.ex
  exact He.meth_ok (c.t.d.fact 38 (f := .meth "People" "wipe") rfl)
theorem Txt.dd__law_cell (T : Txt w K mg) : ∃ fd, FunD K "_law_cell" "_law_cell" (defArgs s__law_cell) (defBody s__law_cell) (defScope s__law_cell) [] [] (He.fAd K ("_law_cell", none)) fd := by
  obtain ⟨h, X, G, c⟩ := T.ex
  exact c.t.d.def_ 0 (d := df__law_cell) rfl
theorem Txt.dd_is_name (T : Txt w K mg) : ∃ fd, FunD K "is_name" "is_name" (defArgs s_is_name) (defBody s_is_name) (defScope s_is_name) [] [] (He.fAd K ("is_name", none)) fd := by
  obtain ⟨h, X, G, c⟩ := T.ex
  exact c.t.d.def_ 1 (d := df_is_name) rfl
theorem Txt.dd__law_cut (T : Txt w K mg) : ∃ fd, FunD K "_law_cut" "_law_cut" (defArgs s__law_cut) (defBody s__law_cut) (defScope s__law_cut) [] [] (He.fAd K ("_law_cut", none)) fd := by
  obtain ⟨h, X, G, c⟩ := T.ex
  exact c.t.d.def_ 2 (d := df__law_cut) rfl
theorem Txt.dd__law_done (T : Txt w K mg) : ∃ fd, FunD K "_law_done" "_law_done" (defArgs s__law_done) (defBody s__law_done) (defScope s__law_done) [] [] (He.fAd K ("_law_done", none)) fd := by
  obtain ⟨h, X, G, c⟩ := T.ex
  exact c.t.d.def_ 3 (d := df__law_done) rfl
theorem Txt.dd__law_draw (T : Txt w K mg) : ∃ fd, FunD K "_law_draw" "_law_draw" (defArgs s__law_draw) (defBody s__law_draw) (defScope s__law_draw) [] [] (He.fAd K ("_law_draw", none)) fd := by
  obtain ⟨h, X, G, c⟩ := T.ex
  exact c.t.d.def_ 4 (d := df__law_draw) rfl
theorem Txt.dd__law_word (T : Txt w K mg) : ∃ fd, FunD K "_law_word" "_law_word" (defArgs s__law_word) (defBody s__law_word) (defScope s__law_word) [] [] (He.fAd K ("_law_word", none)) fd := by
  obtain ⟨h, X, G, c⟩ := T.ex
  exact c.t.d.def_ 5 (d := df__law_word) rfl
theorem Txt.dd__law_names (T : Txt w K mg) : ∃ fd, FunD K "_law_names" "_law_names" (defArgs s__law_names) (defBody s__law_names) (defScope s__law_names) [] [] (He.fAd K ("_law_names", none)) fd := by
  obtain ⟨h, X, G, c⟩ := T.ex
  exact c.t.d.def_ 6 (d := df__law_names) rfl
theorem Txt.dd__law_pot (T : Txt w K mg) : ∃ fd, FunD K "_law_pot" "_law_pot" (defArgs s__law_pot) (defBody s__law_pot) (defScope s__law_pot) [] [] (He.fAd K ("_law_pot", none)) fd := by
  obtain ⟨h, X, G, c⟩ := T.ex
  exact c.t.d.def_ 7 (d := df__law_pot) rfl
theorem Txt.dd__law_stands (T : Txt w K mg) : ∃ fd, FunD K "_law_stands" "_law_stands" (defArgs s__law_stands) (defBody s__law_stands) (defScope s__law_stands) [] [] (He.fAd K ("_law_stands", none)) fd := by
  obtain ⟨h, X, G, c⟩ := T.ex
  exact c.t.d.def_ 8 (d := df__law_stands) rfl
theorem Txt.dd_law (T : Txt w K mg) : ∃ fd, FunD K "law" "law" (defArgs s_law) (defBody s_law) (defScope s_law) [] [] (He.fAd K ("law", none)) fd := by
  obtain ⟨h, X, G, c⟩ := T.ex
  exact c.t.d.def_ 9 (d := df_law) rfl
theorem Txt.dd_People___init__ (T : Txt w K mg) : ∃ fd, FunD K "__init__" "People.__init__" (defArgs s_People___init__) (defBody s_People___init__) (defScope s_People___init__) [] [] (He.fAd K ("People", some "__init__")) fd := by
  obtain ⟨h, X, G, c⟩ := T.ex
  exact c.t.d.def_ 10 (d := df_People___init__) rfl
theorem Txt.dd_People_cut_off (T : Txt w K mg) : ∃ fd, FunD K "cut_off" "People.cut_off" (defArgs s_People_cut_off) (defBody s_People_cut_off) (defScope s_People_cut_off) [] [] (He.fAd K ("People", some "cut_off")) fd := by
  obtain ⟨h, X, G, c⟩ := T.ex
  exact c.t.d.def_ 11 (d := df_People_cut_off) rfl
theorem Txt.dd_People_known (T : Txt w K mg) : ∃ fd, FunD K "known" "People.known" (defArgs s_People_known) (defBody s_People_known) (defScope s_People_known) [] [] (He.fAd K ("People", some "known")) fd := by
  obtain ⟨h, X, G, c⟩ := T.ex
  exact c.t.d.def_ 12 (d := df_People_known) rfl
theorem Txt.dd_People_name_of (T : Txt w K mg) : ∃ fd, FunD K "name_of" "People.name_of" (defArgs s_People_name_of) (defBody s_People_name_of) (defScope s_People_name_of) [] [] (He.fAd K ("People", some "name_of")) fd := by
  obtain ⟨h, X, G, c⟩ := T.ex
  exact c.t.d.def_ 13 (d := df_People_name_of) rfl
theorem Txt.dd_People_number_of (T : Txt w K mg) : ∃ fd, FunD K "number_of" "People.number_of" (defArgs s_People_number_of) (defBody s_People_number_of) (defScope s_People_number_of) [] [] (He.fAd K ("People", some "number_of")) fd := by
  obtain ⟨h, X, G, c⟩ := T.ex
  exact c.t.d.def_ 14 (d := df_People_number_of) rfl
theorem Txt.dd_People_numbers (T : Txt w K mg) : ∃ fd, FunD K "numbers" "People.numbers" (defArgs s_People_numbers) (defBody s_People_numbers) (defScope s_People_numbers) [] [] (He.fAd K ("People", some "numbers")) fd := by
  obtain ⟨h, X, G, c⟩ := T.ex
  exact c.t.d.def_ 15 (d := df_People_numbers) rfl
theorem Txt.dd_People_wipe (T : Txt w K mg) : ∃ fd, FunD K "wipe" "People.wipe" (defArgs s_People_wipe) (defBody s_People_wipe) (defScope s_People_wipe) [] [] (He.fAd K ("People", some "wipe")) fd := by
  obtain ⟨h, X, G, c⟩ := T.ex
  exact c.t.d.def_ 16 (d := df_People_wipe) rfl
theorem len_People___init__ (K : PySem.W.Frag) : ∀ vs H Q E, sp_People___init__ K vs H Q E → vs.length = 1 := by
  intro vs H Q E h
  unfold sp_People___init__ at h
  split at h <;> first | rfl | exact h.elim
theorem len__law_cell (K : PySem.W.Frag) : ∀ vs H Q E, sp__law_cell K vs H Q E → vs.length = 2 := by
  intro vs H Q E h
  unfold sp__law_cell at h
  split at h <;> first | rfl | exact h.elim
theorem len_is_name (K : PySem.W.Frag) : ∀ vs H Q E, sp_is_name K vs H Q E → vs.length = 1 := by
  intro vs H Q E h
  unfold sp_is_name at h
  split at h <;> first | rfl | exact h.elim
theorem len_People_number_of (K : PySem.W.Frag) : ∀ vs H Q E, sp_People_number_of K vs H Q E → vs.length = 2 := by
  intro vs H Q E h
  unfold sp_People_number_of at h
  split at h <;> first | rfl | exact h.elim
theorem len_People_wipe (K : PySem.W.Frag) : ∀ vs H Q E, sp_People_wipe K vs H Q E → vs.length = 2 := by
  intro vs H Q E h
  unfold sp_People_wipe at h
  split at h <;> first | rfl | exact h.elim
theorem len_People_known (K : PySem.W.Frag) : ∀ vs H Q E, sp_People_known K vs H Q E → vs.length = 2 := by
  intro vs H Q E h
  unfold sp_People_known at h
  split at h <;> first | rfl | exact h.elim
theorem len_People_cut_off (K : PySem.W.Frag) : ∀ vs H Q E, sp_People_cut_off K vs H Q E → vs.length = 2 := by
  intro vs H Q E h
  unfold sp_People_cut_off at h
  split at h <;> first | rfl | exact h.elim
theorem len__law_cut (K : PySem.W.Frag) : ∀ vs H Q E, sp__law_cut K vs H Q E → vs.length = 2 := by
  intro vs H Q E h
  unfold sp__law_cut at h
  split at h <;> first | rfl | exact h.elim
theorem len__law_done (K : PySem.W.Frag) : ∀ vs H Q E, sp__law_done K vs H Q E → vs.length = 5 := by
  intro vs H Q E h
  unfold sp__law_done at h
  split at h <;> first | rfl | exact h.elim
theorem len__law_draw (K : PySem.W.Frag) : ∀ vs H Q E, sp__law_draw K vs H Q E → vs.length = 2 := by
  intro vs H Q E h
  unfold sp__law_draw at h
  split at h <;> first | rfl | exact h.elim
theorem len__law_word (K : PySem.W.Frag) : ∀ vs H Q E, sp__law_word K vs H Q E → vs.length = 1 := by
  intro vs H Q E h
  unfold sp__law_word at h
  split at h <;> first | rfl | exact h.elim
theorem len__law_names (K : PySem.W.Frag) : ∀ vs H Q E, sp__law_names K vs H Q E → vs.length = 1 := by
  intro vs H Q E h
  unfold sp__law_names at h
  split at h <;> first | rfl | exact h.elim
theorem len__law_pot (K : PySem.W.Frag) : ∀ vs H Q E, sp__law_pot K vs H Q E → vs.length = 1 := by
  intro vs H Q E h
  unfold sp__law_pot at h
  split at h <;> first | rfl | exact h.elim
theorem len_People_name_of (K : PySem.W.Frag) : ∀ vs H Q E, sp_People_name_of K vs H Q E → vs.length = 2 := by
  intro vs H Q E h
  unfold sp_People_name_of at h
  split at h <;> first | rfl | exact h.elim
theorem len_People_numbers (K : PySem.W.Frag) : ∀ vs H Q E, sp_People_numbers K vs H Q E → vs.length = 1 := by
  intro vs H Q E h
  unfold sp_People_numbers at h
  split at h <;> first | rfl | exact h.elim
theorem len__law_stands (K : PySem.W.Frag) : ∀ vs H Q E, sp__law_stands K vs H Q E → vs.length = 3 := by
  intro vs H Q E h
  unfold sp__law_stands at h
  split at h <;> first | rfl | exact h.elim
theorem len_law (K : PySem.W.Frag) : ∀ vs H Q E, sp_law K vs H Q E → vs.length = 1 := by
  intro vs H Q E h
  unfold sp_law at h
  split at h <;> first | rfl | exact h.elim
theorem body_People___init__ (T : Txt w K mg) {cdv : Value} {A : Around} {outer : List Env} {s : Shared} {H : Hp} {E : XK} (hr : Room 0 (A.deeper (envOfC "People.__init__" (defScope s_People___init__) s.heap.objs.size (He.fAd K ("People", some "__init__")) cdv))) : PSs (cxOf CX0 P w K mg base M_People___init__ "People.__init__" (defScope s_People___init__) (He.fAd K ("People", some "__init__")) cdv A outer s H E) (defBody s_People___init__) (t_People___init__ K) := by
  
  refine PSs.nox ?_
  exact (pss_cons (ps_fd T.cl_People T.n_People_by_name (pv 0) (pe_dnewK))
  (pss_cons (ps_fd T.cl_People T.n_People_by_number (pv 0) (pe_dnewK))
  (pss_one (ps_fd T.cl_People T.n_People_many (pv 0) pe_int))))
theorem k_People (T : Txt w K mg) : U.Mak P w K mg base CX0 1 "People" (He.ga K "People") (sp_People___init__ K) [] := by
  obtain ⟨fd, F⟩ := T.dd_People___init__
  have hb : Binds K fd ["self"] [] := F.bindsN (ps := ["self"]) (fun _ _ _ _ _ _ us hl => match us, hl with | [_], _ => rfl)
  exact ⟨⟨_, fd, _, [], T.mk_People, F.ok (CX := CX0) sc_People___init__ (len_People___init__ K) (fun cdv A outer s H vs Q E hr h => ⟨t_People___init__ K, body_People___init__ T hr, pure_People___init__ vs H Q E h⟩), T.g_People, hb, .nil⟩⟩
theorem body__law_cell (T : Txt w K mg) {cdv : Value} {A : Around} {outer : List Env} {s : Shared} {H : Hp} {E : XK} (hr : Room 0 (A.deeper (envOfC "_law_cell" (defScope s__law_cell) s.heap.objs.size (He.fAd K ("_law_cell", none)) cdv))) : PSs (cxOf CX0 P w K mg base M__law_cell "_law_cell" (defScope s__law_cell) (He.fAd K ("_law_cell", none)) cdv A outer s H E) (defBody s__law_cell) (t__law_cell K) := by
  
  refine PSs.nox ?_
  exact (pss_cons (ps_if (pt_cmpR op_lt (pv 1) (pe_callB call_len_seq (by rfl) (T.b_len) (by decide +kernel) (pa_cons (pv 0) pa_nil)) (nomark _)) (pss_one (ps_ret (pe_ix ix_list (pv 0) (pv 1) (fun _ _ => rfl)))) pss_nil)
  (pss_one (ps_ret pe_int)))
theorem c__law_cell (T : Txt w K mg) : U.Cal P w K mg base CX0 1 "_law_cell" (sp__law_cell K) [] := by
  obtain ⟨fd, F⟩ := T.dd__law_cell
  have hb : Binds K fd ["_law_script", "_law_k"] [] := F.bindsN (ps := ["_law_script", "_law_k"]) (fun _ _ _ _ _ _ us hl => match us, hl with | [_, _], _ => rfl)
  exact ⟨⟨_, fd, _, [], F.ok (CX := CX0) sc__law_cell (len__law_cell K) (fun cdv A outer s H vs Q E hr h => ⟨t__law_cell K, body__law_cell T hr, pure__law_cell vs H Q E h⟩), T.g__law_cell, F.kp, hb, .nil⟩⟩
theorem body_is_name (T : Txt w K mg) {cdv : Value} {A : Around} {outer : List Env} {s : Shared} {H : Hp} {E : XK} (hr : Room 0 (A.deeper (envOfC "is_name" (defScope s_is_name) s.heap.objs.size (He.fAd K ("is_name", none)) cdv))) : PSs (cxOf CX0 P w K mg base M_is_name "is_name" (defScope s_is_name) (He.fAd K ("is_name", none)) cdv A outer s H E) (defBody s_is_name) (t_is_name K) := by
  
  refine PSs.nox ?_
  exact (pss_cons (ps_if (PW.pt (pw_or (pt_not (pt_val (pe_callB call_isi (by rfl) (T.b_isinstance) (by decide +kernel) (pa_cons (pv 0) (pa_cons (pe_ty (by rfl) (T.b_str) (by decide +kernel)) pa_nil))))) (pw_or (pt_cmpR op_eq (pv 0) pe_str (nomark _)) (pw_or1 (pt_cmpR op_gt (pe_callB call_len_str (by rfl) (T.b_len) (by decide +kernel) (pa_cons (pv 0) pa_nil)) (pe_gi (by rfl) T.v_MOST_LETTERS) (nomark _)))))) (pss_one (ps_ret pe_bl)) pss_nil)
  (pss_one (ps_ret (pe_callB (cr_all rfl) (by rfl) (T.b_all) (by decide +kernel) (pa_cons (pe_lc (own := [("letter", 1)]) (g := (gName 1)) (tt := tYes) rfl sc_is_name.nd (pi_str (pv 0)) (blkOk_by (N := M_is_name) (sc := defScope s_is_name) (own := [("letter", 1)]) (by decide +kernel)) (fun _ _ _ _ _ => (pg_name (i := 1) sc_is_name.nd rfl (by first | exact Or.inl rfl | exact Or.inr rfl))) (fun _ _ _ _ _ => pts_nil) (fun _ _ _ _ _ => (pe_cmpR op_in_sign (pv 1) (pe_gs (by rfl) T.v_LETTERS) (by rfl)))) pa_nil)))))
theorem c_is_name (T : Txt w K mg) : U.Cal P w K mg base CX0 1 "is_name" (sp_is_name K) [] := by
  obtain ⟨fd, F⟩ := T.dd_is_name
  have hb : Binds K fd ["thing"] [] := F.bindsN (ps := ["thing"]) (fun _ _ _ _ _ _ us hl => match us, hl with | [_], _ => rfl)
  exact ⟨⟨_, fd, _, [], F.ok (CX := CX0) sc_is_name (len_is_name K) (fun cdv A outer s H vs Q E hr h => ⟨t_is_name K, body_is_name T hr, pure_is_name vs H Q E h⟩), T.g_is_name, F.kp, hb, .nil⟩⟩
theorem body_People_number_of (T : Txt w K mg) {cdv : Value} {A : Around} {outer : List Env} {s : Shared} {H : Hp} {E : XK} (hr : Room 1 (A.deeper (envOfC "People.number_of" (defScope s_People_number_of) s.heap.objs.size (He.fAd K ("People", some "number_of")) cdv))) : PSs (cxOf (L2.CX P w) P w K mg base M_People_number_of "People.number_of" (defScope s_People_number_of) (He.fAd K ("People", some "number_of")) cdv A outer s H E) (defBody s_People_number_of) (t_People_number_of K (fun cls d _ H => E cls d H)) := by
  have c_is_name := c_is_name (P := P) (base := base) T
  have tk : Takes (cxOf (L2.CX P w) P w K mg base M_People_number_of "People.number_of" (defScope s_People_number_of) (He.fAd K ("People", some "number_of")) cdv A outer s H E) (fun cls d _ H => E cls d H) := takes_of rfl rfl rfl rfl
  exact (pss_cons (ps_if (pt_not (pt_val (U.pe_c (E := ES0) c_is_name hr (by decide) ps0 (by rfl) (pa_cons (pv 1) pa_nil)))) (pss_one (ps_rs rfl tk T.e_NoName T.g_NoName (by rfl))) pss_nil)
  (pss_cons (ps_if (pt_cmp (pc_dnotin (hu_of hr) (pv 1) (pe_fd T.cl_People T.n_People_by_name (pv 0))) (by rfl)) (pss_cons (ps_fdadd T.cl_People T.n_People_many (pv 0) pe_int)
  (pss_cons (ps_dput (hu_of hr) (pe_fd T.cl_People T.n_People_by_name (pv 0)) (pv 1) (pe_fd T.cl_People T.n_People_many (pv 0)) rfl)
  (pss_one (ps_dput (hu_of hr) (pe_fd T.cl_People T.n_People_by_number (pv 0)) (pe_fd T.cl_People T.n_People_many (pv 0)) (pv 1) rfl)))) pss_nil)
  (pss_one (ps_ret (pe_dget (hu_of hr) (pe_fd T.cl_People T.n_People_by_name (pv 0)) (pv 1) (fun _ _ => rfl))))))
theorem m_People_number_of (T : Txt w K mg) : U.Met P w K mg base (L2.CX P w) 2 (He.ga K "People") "number_of" (sp_People_number_of K) [] := by
  obtain ⟨fd, F⟩ := T.dd_People_number_of
  have hb : Binds K fd ["self", "name"] [] := F.bindsN (ps := ["self", "name"]) (fun _ _ _ _ _ _ us hl => match us, hl with | [_, _], _ => rfl)
  exact ⟨⟨_, fd, _, [], T.cl_People, T.m_People_number_of, F.ok (CX := (L2.CX P w)) sc_People_number_of (len_People_number_of K) (fun cdv A outer s H vs Q E hr h => ⟨t_People_number_of K (fun cls d _ H => E cls d H), body_People_number_of T hr, pure_People_number_of vs H Q E h⟩), hb, .nil⟩⟩
theorem body_People_wipe (T : Txt w K mg) {cdv : Value} {A : Around} {outer : List Env} {s : Shared} {H : Hp} {E : XK} (hr : Room 0 (A.deeper (envOfC "People.wipe" (defScope s_People_wipe) s.heap.objs.size (He.fAd K ("People", some "wipe")) cdv))) : PSs (cxOf CX0 P w K mg base M_People_wipe "People.wipe" (defScope s_People_wipe) (He.fAd K ("People", some "wipe")) cdv A outer s H E) (defBody s_People_wipe) (t_People_wipe K) := by
  
  refine PSs.nox ?_
  exact (pss_cons (ps_asg (pe_dpop2 (pe_fd T.cl_People T.n_People_by_number (pv 0)) (pv 1) pe_non ⟨by rfl, by rfl, by rfl, by rfl⟩) (pg_name (i := 2) sc_People_wipe.nd rfl (by first | exact Or.inl rfl | exact Or.inr rfl)))
  (pss_one (ps_if (PW.pt (pw_and (pt_cmpR op_notN (pv 2) pe_non (nomark _)) (pw_and1 (pt_cmpR op_eq (pe_dget1 (hu_of hr) (pe_fd T.cl_People T.n_People_by_name (pv 0)) (pv 2) ⟨by rfl, by rfl, by rfl, by rfl⟩) (pv 1) (nomark _))))) (pss_one (ps_expr (pe_dpop1 (pe_fd T.cl_People T.n_People_by_name (pv 0)) (pv 2) ⟨by rfl, by rfl, by rfl, by rfl⟩))) pss_nil)))
theorem m_People_wipe (T : Txt w K mg) : U.Met P w K mg base CX0 1 (He.ga K "People") "wipe" (sp_People_wipe K) [] := by
  obtain ⟨fd, F⟩ := T.dd_People_wipe
  have hb : Binds K fd ["self", "number"] [] := F.bindsN (ps := ["self", "number"]) (fun _ _ _ _ _ _ us hl => match us, hl with | [_, _], _ => rfl)
  exact ⟨⟨_, fd, _, [], T.cl_People, T.m_People_wipe, F.ok (CX := CX0) sc_People_wipe (len_People_wipe K) (fun cdv A outer s H vs Q E hr h => ⟨t_People_wipe K, body_People_wipe T hr, pure_People_wipe vs H Q E h⟩), hb, .nil⟩⟩
theorem body_People_known (T : Txt w K mg) {cdv : Value} {A : Around} {outer : List Env} {s : Shared} {H : Hp} {E : XK} (hr : Room 1 (A.deeper (envOfC "People.known" (defScope s_People_known) s.heap.objs.size (He.fAd K ("People", some "known")) cdv))) : PSs (cxOf CX0 P w K mg base M_People_known "People.known" (defScope s_People_known) (He.fAd K ("People", some "known")) cdv A outer s H E) (defBody s_People_known) (t_People_known K) := by
  have c_is_name := c_is_name (P := P) (base := base) T
  refine PSs.nox ?_
  exact (pss_cons (ps_if (pt_not (pt_val (U.pe_c (E := ES0) c_is_name hr (by decide) ps0 (by rfl) (pa_cons (pv 1) pa_nil)))) (pss_one (ps_ret pe_non)) pss_nil)
  (pss_one (ps_ret (pe_dget1 (hu_of hr) (pe_fd T.cl_People T.n_People_by_name (pv 0)) (pv 1) ⟨by rfl, by rfl, by rfl, by rfl⟩))))
theorem m_People_known (T : Txt w K mg) : U.Met P w K mg base CX0 2 (He.ga K "People") "known" (sp_People_known K) [] := by
  obtain ⟨fd, F⟩ := T.dd_People_known
  have hb : Binds K fd ["self", "name"] [] := F.bindsN (ps := ["self", "name"]) (fun _ _ _ _ _ _ us hl => match us, hl with | [_, _], _ => rfl)
  exact ⟨⟨_, fd, _, [], T.cl_People, T.m_People_known, F.ok (CX := CX0) sc_People_known (len_People_known K) (fun cdv A outer s H vs Q E hr h => ⟨t_People_known K, body_People_known T hr, pure_People_known vs H Q E h⟩), hb, .nil⟩⟩
theorem body_People_cut_off (T : Txt w K mg) {cdv : Value} {A : Around} {outer : List Env} {s : Shared} {H : Hp} {E : XK} (hr : Room 2 (A.deeper (envOfC "People.cut_off" (defScope s_People_cut_off) s.heap.objs.size (He.fAd K ("People", some "cut_off")) cdv))) : PSs (cxOf (L2.CX P w) P w K mg base M_People_cut_off "People.cut_off" (defScope s_People_cut_off) (He.fAd K ("People", some "cut_off")) cdv A outer s H E) (defBody s_People_cut_off) (t_People_cut_off K (fun cls d _ H => E cls d H)) := by
  have m_People_known := m_People_known (P := P) (base := base) T
  have tk : Takes (cxOf (L2.CX P w) P w K mg base M_People_cut_off "People.cut_off" (defScope s_People_cut_off) (He.fAd K ("People", some "cut_off")) cdv A outer s H E) (fun cls d _ H => E cls d H) := takes_of rfl rfl rfl rfl
  exact (pss_cons (ps_asg (U.pe_mt (E := ES0) m_People_known hr (by decide) ps0 (pv 0) (pa_cons (pv 1) pa_nil)) (pg_name (i := 2) sc_People_cut_off.nd rfl (by first | exact Or.inl rfl | exact Or.inr rfl)))
  (pss_cons (ps_if (pt_cmpR op_isN (pv 2) pe_non (nomark _)) (pss_one (ps_rs rfl tk T.e_NoPerson T.g_NoPerson (by rfl))) pss_nil)
  (pss_cons (ps_expr (pe_dpop1 (pe_fd T.cl_People T.n_People_by_name (pv 0)) (pv 1) ⟨by rfl, by rfl, by rfl, by rfl⟩))
  (pss_one (ps_ret (pv 2))))))
theorem m_People_cut_off (T : Txt w K mg) : U.Met P w K mg base (L2.CX P w) 3 (He.ga K "People") "cut_off" (sp_People_cut_off K) [] := by
  obtain ⟨fd, F⟩ := T.dd_People_cut_off
  have hb : Binds K fd ["self", "name"] [] := F.bindsN (ps := ["self", "name"]) (fun _ _ _ _ _ _ us hl => match us, hl with | [_, _], _ => rfl)
  exact ⟨⟨_, fd, _, [], T.cl_People, T.m_People_cut_off, F.ok (CX := (L2.CX P w)) sc_People_cut_off (len_People_cut_off K) (fun cdv A outer s H vs Q E hr h => ⟨t_People_cut_off K (fun cls d _ H => E cls d H), body_People_cut_off T hr, pure_People_cut_off vs H Q E h⟩), hb, .nil⟩⟩
theorem body__law_cut (T : Txt w K mg) {cdv : Value} {A : Around} {outer : List Env} {s : Shared} {H : Hp} {E : XK} (hr : Room 3 (A.deeper (envOfC "_law_cut" (defScope s__law_cut) s.heap.objs.size (He.fAd K ("_law_cut", none)) cdv))) : PSs (cxOf CX0 P w K mg base M__law_cut "_law_cut" (defScope s__law_cut) (He.fAd K ("_law_cut", none)) cdv A outer s H E) (defBody s__law_cut) (t__law_cut K) := by
  have m_People_cut_off := m_People_cut_off (P := P) (base := base) T
  refine PSs.nox ?_
  exact (pss_cons (ps_asg pe_non (pg_name (i := 2) sc__law_cut.nd rfl (by first | exact Or.inl rfl | exact Or.inr rfl)))
  (pss_cons (ps_try_as (i := 3) (tb := fun W => (tAsg (tMt (He.ga K "People") "cut_off" (sp_People_cut_off K) [] (WE W) (tVar 0) (tCons (tVar 1) tNil)) (gName 2))) (ts := fun ea cls ed => (tAsg (tLst (tCons (tC (.str "no")) (tCons (tCB (rIsX K ea cls ed) (tCons (tVar 3) (tCons (tC (.ref (He.ga K "NoPerson"))) tNil))) tNil))) (gName 2))) (Wout := fun _ _ _ _ => False) rfl rfl sc__law_cut.nd rfl rfl ⟨rfl, by decide, .inl T.g_HallError⟩ takes0 (fun W pn xe tk hpo => (pss_one (ps_asg (U.pe_mt (E := (WE W)) m_People_cut_off hr (by decide) (fun σ => passAt tk σ) (pv 0) (pa_cons (pv 1) pa_nil)) (pg_name (i := 2) sc__law_cut.nd rfl (by first | exact Or.inl rfl | exact Or.inr rfl))))) (fun ea oe cls ed pn hz hf => (pss_one (ps_asg (pe_lst (pa_cons pe_str (pa_cons (pe_callB (call_isX hz hf) (by rfl) (T.b_isinstance) (by decide +kernel) (pa_cons (pv 3) (pa_cons (pe_gr (by rfl) T.g_NoPerson) pa_nil))) pa_nil))) (pg_name (i := 2) sc__law_cut.nd rfl (by first | exact Or.inl rfl | exact Or.inr rfl))))))
  (pss_one (ps_ret (pv 2)))))
theorem c__law_cut (T : Txt w K mg) : U.Cal P w K mg base CX0 4 "_law_cut" (sp__law_cut K) [] := by
  obtain ⟨fd, F⟩ := T.dd__law_cut
  have hb : Binds K fd ["_law_people", "_law_name"] [] := F.bindsN (ps := ["_law_people", "_law_name"]) (fun _ _ _ _ _ _ us hl => match us, hl with | [_, _], _ => rfl)
  exact ⟨⟨_, fd, _, [], F.ok (CX := CX0) sc__law_cut (len__law_cut K) (fun cdv A outer s H vs Q E hr h => ⟨t__law_cut K, body__law_cut T hr, pure__law_cut vs H Q E h⟩), T.g__law_cut, F.kp, hb, .nil⟩⟩
theorem body__law_done (T : Txt w K mg) {cdv : Value} {A : Around} {outer : List Env} {s : Shared} {H : Hp} {E : XK} (hr : Room 4 (A.deeper (envOfC "_law_done" (defScope s__law_done) s.heap.objs.size (He.fAd K ("_law_done", none)) cdv))) : PSs (cxOf CX0 P w K mg base M__law_done "_law_done" (defScope s__law_done) (He.fAd K ("_law_done", none)) cdv A outer s H E) (defBody s__law_done) (t__law_done K) := by
  have m_People_number_of := m_People_number_of (P := P) (base := base) T
  have m_People_wipe := m_People_wipe (P := P) (base := base) T
  have c__law_cut := c__law_cut (P := P) (base := base) T
  refine PSs.nox ?_
  exact (pss_cons (ps_asg (pv 1) (pg_tup rfl (pgs_cons (pg_name (i := 5) sc__law_done.nd rfl (by first | exact Or.inl rfl | exact Or.inr rfl)) (pgs_cons (pg_name (i := 6) sc__law_done.nd rfl (by first | exact Or.inl rfl | exact Or.inr rfl)) pgs_nil))))
  (pss_cons (ps_if (pt_cmpR op_lt (pv 3) pe_int (nomark _)) (pss_cons (ps_if (pt_cmp (pc_dnotin (hu_of hr) (pv 2) (pv 5)) (by rfl)) (pss_cons (ps_dput (hu_of hr) (pv 5) (pv 2) (pe_op op_add pe_int (pe_callB (cr_max rfl) (by rfl) (T.b_max) (by decide +kernel) (pa_cons (pe_op op_cat (pe_lst (pa_cons pe_int pa_nil)) (pe_callTy (U.call_listKV rfl) (by rfl) (T.b_list) (by decide +kernel) (pa_cons (pe_keysV (pv 6)) pa_nil))) pa_nil))) rfl)
  (pss_one (ps_dput (hu_of hr) (pv 6) (pe_dget (hu_of hr) (pv 5) (pv 2) (fun _ _ => rfl)) (pv 2) rfl))) pss_nil)
  (pss_one (ps_ret (pe_cmpR op_eq (U.pe_mt (E := ES0) m_People_number_of hr (by decide) (psL) (pv 0) (pa_cons (pv 2) pa_nil)) (pe_dget (hu_of hr) (pv 5) (pv 2) (fun _ _ => rfl)) (nomark _))))) pss_nil)
  (pss_cons (ps_if (pt_cmpR op_eq (pv 3) pe_int (nomark _)) (pss_cons (ps_asg (pe_dpop2 (pv 5) (pv 2) pe_non ⟨by rfl, by rfl, by rfl, by rfl⟩) (pg_name (i := 7) sc__law_done.nd rfl (by first | exact Or.inl rfl | exact Or.inr rfl)))
  (pss_cons (ps_asg (U.pe_c (E := ES0) c__law_cut hr (by decide) ps0 (by rfl) (pa_cons (pv 0) (pa_cons (pv 2) pa_nil))) (pg_name (i := 8) sc__law_done.nd rfl (by first | exact Or.inl rfl | exact Or.inr rfl)))
  (pss_one (ps_ret (pe_ifExp (pt_cmpR op_isN (pv 7) pe_non (nomark _)) (pe_cmpR (op_eqD hr.units) (pv 8) (pe_lst (pa_cons pe_str (pa_cons pe_bl pa_nil))) (nomark _)) (pe_cmpR (op_eqD hr.units) (pv 8) (pv 7) (nomark _))))))) pss_nil)
  (pss_cons (ps_if (pt_cmpR op_notN (U.pe_mt (E := ES0) m_People_wipe hr (by decide) ps0 (pv 0) (pa_cons (pv 4) pa_nil)) pe_non (nomark _)) (pss_one (ps_ret pe_bl)) pss_nil)
  (pss_cons (ps_asg (pe_dget1 (hu_of hr) (pv 6) (pv 4) ⟨by rfl, by rfl, by rfl, by rfl⟩) (pg_name (i := 2) sc__law_done.nd rfl (by first | exact Or.inl rfl | exact Or.inr rfl)))
  (pss_cons (ps_if (PW.pt (pw_and (pt_cmpR op_notN (pv 2) pe_non (nomark _)) (pw_and1 (pt_cmpR op_eq (pe_dget1 (hu_of hr) (pv 5) (pv 2) ⟨by rfl, by rfl, by rfl, by rfl⟩) (pv 4) (nomark _))))) (pss_one (ps_expr (pe_dpop1 (pv 5) (pv 2) ⟨by rfl, by rfl, by rfl, by rfl⟩))) pss_nil)
  (pss_cons (ps_if (pt_cmp (pc_din (hu_of hr) (pv 4) (pv 6)) (by rfl)) (pss_one (ps_dput (hu_of hr) (pv 6) (pv 4) pe_non rfl)) pss_nil)
  (pss_one (ps_ret pe_bl)))))))))
theorem c__law_done (T : Txt w K mg) : U.Cal P w K mg base CX0 5 "_law_done" (sp__law_done K) [] := by
  obtain ⟨fd, F⟩ := T.dd__law_done
  have hb : Binds K fd ["_law_people", "_law_kept", "_law_name", "_law_way", "_law_number"] [] := F.bindsN (ps := ["_law_people", "_law_kept", "_law_name", "_law_way", "_law_number"]) (fun _ _ _ _ _ _ us hl => match us, hl with | [_, _, _, _, _], _ => rfl)
  exact ⟨⟨_, fd, _, [], F.ok (CX := CX0) sc__law_done (len__law_done K) (fun cdv A outer s H vs Q E hr h => ⟨t__law_done K, body__law_done T hr, pure__law_done vs H Q E h⟩), T.g__law_done, F.kp, hb, .nil⟩⟩
theorem body__law_draw (T : Txt w K mg) {cdv : Value} {A : Around} {outer : List Env} {s : Shared} {H : Hp} {E : XK} (hr : Room 0 (A.deeper (envOfC "_law_draw" (defScope s__law_draw) s.heap.objs.size (He.fAd K ("_law_draw", none)) cdv))) : PSs (cxOf CX0 P w K mg base M__law_draw "_law_draw" (defScope s__law_draw) (He.fAd K ("_law_draw", none)) cdv A outer s H E) (defBody s__law_draw) (t__law_draw K) := by
  
  refine PSs.nox ?_
  exact (pss_cons (ps_if (pt_cmpR op_gt (pe_ix ix_list (pv 0) pe_int (fun _ _ => rfl)) pe_int (nomark _)) (pss_cons (ps_asg (pe_callB call_divmodW (by rfl) (T.b_divmod) (by decide +kernel) (pa_cons (pe_ix ix_list (pv 0) pe_int (fun _ _ => rfl)) (pa_cons (pv 1) pa_nil))) (pg_tup rfl (pgs_cons (pg_sub (pv 0) pe_int set_list) (pgs_cons (pg_name (i := 2) sc__law_draw.nd rfl (by first | exact Or.inl rfl | exact Or.inr rfl)) pgs_nil))))
  (pss_one (ps_ret (pv 2)))) pss_nil)
  (pss_cons (ps_asg (pe_op op_mod (pe_op op_add (pe_op op_mul (pe_ix ix_list (pv 0) pe_int (fun _ _ => rfl)) pe_int) pe_int) pe_int) (pg_sub (pv 0) pe_int set_list))
  (pss_one (ps_ret (pe_op op_mod (pe_op op_fdivW (pe_op op_mod (pe_op op_mul (pe_ix ix_list (pv 0) pe_int (fun _ _ => rfl)) (pe_ix ix_list (pv 0) pe_int (fun _ _ => rfl))) pe_int) pe_int) (pv 1))))))
theorem c__law_draw (T : Txt w K mg) : U.Cal P w K mg base CX0 1 "_law_draw" (sp__law_draw K) [] := by
  obtain ⟨fd, F⟩ := T.dd__law_draw
  have hb : Binds K fd ["_law_pot_here", "_law_many"] [] := F.bindsN (ps := ["_law_pot_here", "_law_many"]) (fun _ _ _ _ _ _ us hl => match us, hl with | [_, _], _ => rfl)
  exact ⟨⟨_, fd, _, [], F.ok (CX := CX0) sc__law_draw (len__law_draw K) (fun cdv A outer s H vs Q E hr h => ⟨t__law_draw K, body__law_draw T hr, pure__law_draw vs H Q E h⟩), T.g__law_draw, F.kp, hb, .nil⟩⟩
theorem body__law_word (T : Txt w K mg) {cdv : Value} {A : Around} {outer : List Env} {s : Shared} {H : Hp} {E : XK} (hr : Room 1 (A.deeper (envOfC "_law_word" (defScope s__law_word) s.heap.objs.size (He.fAd K ("_law_word", none)) cdv))) : PSs (cxOf CX0 P w K mg base M__law_word "_law_word" (defScope s__law_word) (He.fAd K ("_law_word", none)) cdv A outer s H E) (defBody s__law_word) (t__law_word K) := by
  have c__law_draw := c__law_draw (P := P) (base := base) T
  refine PSs.nox ?_
  exact (pss_one (ps_ret (pe_m1 PySem.F.slot_str_join PySem.F.type_str_join mt_join pe_str (pe_lc (own := [("_law_k", 1)]) (g := (gName 1)) (tt := tYes) rfl sc__law_word.nd (pi_range1 (by rfl) (T.b_range) (pa_cons (pe_op op_add pe_int (U.pe_c (E := ES0) c__law_draw hr (by decide) ps0 (by rfl) (pa_cons (pv 0) (pa_cons pe_int pa_nil)))) pa_nil)) (blkOk_by (N := M__law_word) (sc := defScope s__law_word) (own := [("_law_k", 1)]) (by decide +kernel)) (fun _ _ _ _ _ => (pg_name (i := 1) sc__law_word.nd rfl (by first | exact Or.inl rfl | exact Or.inr rfl))) (fun _ _ _ _ _ => pts_nil) (fun _ _ _ _ _ => (pe_ix ix_str pe_str (U.pe_c (E := ES0) c__law_draw hr (by decide) ps0 (by rfl) (pa_cons (pv 0) (pa_cons pe_int pa_nil))) (fun _ _ => rfl)))))))
theorem c__law_word (T : Txt w K mg) : U.Cal P w K mg base CX0 2 "_law_word" (sp__law_word K) [] := by
  obtain ⟨fd, F⟩ := T.dd__law_word
  have hb : Binds K fd ["_law_pot_here"] [] := F.bindsN (ps := ["_law_pot_here"]) (fun _ _ _ _ _ _ us hl => match us, hl with | [_], _ => rfl)
  exact ⟨⟨_, fd, _, [], F.ok (CX := CX0) sc__law_word (len__law_word K) (fun cdv A outer s H vs Q E hr h => ⟨t__law_word K, body__law_word T hr, pure__law_word vs H Q E h⟩), T.g__law_word, F.kp, hb, .nil⟩⟩
theorem body__law_names (T : Txt w K mg) {cdv : Value} {A : Around} {outer : List Env} {s : Shared} {H : Hp} {E : XK} (hr : Room 2 (A.deeper (envOfC "_law_names" (defScope s__law_names) s.heap.objs.size (He.fAd K ("_law_names", none)) cdv))) : PSs (cxOf CX0 P w K mg base M__law_names "_law_names" (defScope s__law_names) (He.fAd K ("_law_names", none)) cdv A outer s H E) (defBody s__law_names) (t__law_names K) := by
  have c__law_word := c__law_word (P := P) (base := base) T
  refine PSs.nox ?_
  exact (pss_cons (ps_asg (pe_lst pa_nil) (pg_name (i := 1) sc__law_names.nd rfl (by first | exact Or.inl rfl | exact Or.inr rfl)))
  (pss_cons (ps_while PassesOwn.never (pt_cmpR op_lt (pe_callB call_len_seq (by rfl) (T.b_len) (by decide +kernel) (pa_cons (pv 1) pa_nil)) pe_int (nomark _)) (pss_cons (ps_asg (U.pe_c (E := ES0) c__law_word hr (by decide) ps0 (by rfl) (pa_cons (pv 0) pa_nil)) (pg_name (i := 2) sc__law_names.nd rfl (by first | exact Or.inl rfl | exact Or.inr rfl)))
  (pss_cons (ps_if (pt_cmpR op_in_seq (pv 2) (pv 1) (by rfl)) (pss_one (ps_asg (pe_op op_mulS (pe_ix ix_str pe_str (pe_callB call_len_seq (by rfl) (T.b_len) (by decide +kernel) (pa_cons (pv 1) pa_nil)) (fun _ _ => rfl)) pe_int) (pg_name (i := 2) sc__law_names.nd rfl (by first | exact Or.inl rfl | exact Or.inr rfl)))) pss_nil)
  (pss_one (ps_if (pt_cmpR op_notIn_seq (pv 2) (pv 1) (by rfl)) (pss_one (ps_expr (pe_bm PySem.F.plainAttrs_list PySem.F.slot_list_append PySem.F.type_list_append mt_append (pv 1) (pa_cons (pv 2) pa_nil)))) (pss_one (ps_expr (pe_bm PySem.F.plainAttrs_list PySem.F.slot_list_append PySem.F.type_list_append mt_append (pv 1) (pa_cons (pe_op op_mulS (pe_ix ix_str pe_str (pe_callB call_len_seq (by rfl) (T.b_len) (by decide +kernel) (pa_cons (pv 1) pa_nil)) (fun _ _ => rfl)) pe_int) pa_nil)))))))))
  (pss_one (ps_ret (pv 1)))))
theorem c__law_names (T : Txt w K mg) : U.Cal P w K mg base CX0 3 "_law_names" (sp__law_names K) [] := by
  obtain ⟨fd, F⟩ := T.dd__law_names
  have hb : Binds K fd ["_law_pot_here"] [] := F.bindsN (ps := ["_law_pot_here"]) (fun _ _ _ _ _ _ us hl => match us, hl with | [_], _ => rfl)
  exact ⟨⟨_, fd, _, [], F.ok (CX := CX0) sc__law_names (len__law_names K) (fun cdv A outer s H vs Q E hr h => ⟨t__law_names K, body__law_names T hr, pure__law_names vs H Q E h⟩), T.g__law_names, F.kp, hb, .nil⟩⟩
theorem body__law_pot (T : Txt w K mg) {cdv : Value} {A : Around} {outer : List Env} {s : Shared} {H : Hp} {E : XK} (hr : Room 0 (A.deeper (envOfC "_law_pot" (defScope s__law_pot) s.heap.objs.size (He.fAd K ("_law_pot", none)) cdv))) : PSs (cxOf CX0 P w K mg base M__law_pot "_law_pot" (defScope s__law_pot) (He.fAd K ("_law_pot", none)) cdv A outer s H E) (defBody s__law_pot) (t__law_pot K) := by
  
  refine PSs.nox ?_
  exact (pss_one (ps_ret (pe_lst (pa_cons (pe_callB (call_max2 rfl) (by rfl) (T.b_max) (by decide +kernel) (pa_cons pe_int (pa_cons (pe_op op_sub (pe_callB call_abs (by rfl) (T.b_abs) (by decide +kernel) (pa_cons (pv 0) pa_nil)) (pe_op op_pow pe_int pe_int)) pa_nil))) (pa_cons (pe_op op_add (pe_op op_mod (pe_callB call_abs (by rfl) (T.b_abs) (by decide +kernel) (pa_cons (pv 0) pa_nil)) pe_int) pe_int) pa_nil)))))
theorem c__law_pot (T : Txt w K mg) : U.Cal P w K mg base CX0 1 "_law_pot" (sp__law_pot K) [] := by
  obtain ⟨fd, F⟩ := T.dd__law_pot
  have hb : Binds K fd ["_law_cell_here"] [] := F.bindsN (ps := ["_law_cell_here"]) (fun _ _ _ _ _ _ us hl => match us, hl with | [_], _ => rfl)
  exact ⟨⟨_, fd, _, [], F.ok (CX := CX0) sc__law_pot (len__law_pot K) (fun cdv A outer s H vs Q E hr h => ⟨t__law_pot K, body__law_pot T hr, pure__law_pot vs H Q E h⟩), T.g__law_pot, F.kp, hb, .nil⟩⟩
theorem body_People_name_of (T : Txt w K mg) {cdv : Value} {A : Around} {outer : List Env} {s : Shared} {H : Hp} {E : XK} (hr : Room 0 (A.deeper (envOfC "People.name_of" (defScope s_People_name_of) s.heap.objs.size (He.fAd K ("People", some "name_of")) cdv))) : PSs (cxOf CX0 P w K mg base M_People_name_of "People.name_of" (defScope s_People_name_of) (He.fAd K ("People", some "name_of")) cdv A outer s H E) (defBody s_People_name_of) (t_People_name_of K) := by
  
  refine PSs.nox ?_
  exact (pss_one (ps_ret (pe_dget1 (hu_of hr) (pe_fd T.cl_People T.n_People_by_number (pv 0)) (pv 1) ⟨by rfl, by rfl, by rfl, by rfl⟩)))
theorem m_People_name_of (T : Txt w K mg) : U.Met P w K mg base CX0 1 (He.ga K "People") "name_of" (sp_People_name_of K) [] := by
  obtain ⟨fd, F⟩ := T.dd_People_name_of
  have hb : Binds K fd ["self", "number"] [] := F.bindsN (ps := ["self", "number"]) (fun _ _ _ _ _ _ us hl => match us, hl with | [_, _], _ => rfl)
  exact ⟨⟨_, fd, _, [], T.cl_People, T.m_People_name_of, F.ok (CX := CX0) sc_People_name_of (len_People_name_of K) (fun cdv A outer s H vs Q E hr h => ⟨t_People_name_of K, body_People_name_of T hr, pure_People_name_of vs H Q E h⟩), hb, .nil⟩⟩
theorem body_People_numbers (T : Txt w K mg) {cdv : Value} {A : Around} {outer : List Env} {s : Shared} {H : Hp} {E : XK} (hr : Room 0 (A.deeper (envOfC "People.numbers" (defScope s_People_numbers) s.heap.objs.size (He.fAd K ("People", some "numbers")) cdv))) : PSs (cxOf CX0 P w K mg base M_People_numbers "People.numbers" (defScope s_People_numbers) (He.fAd K ("People", some "numbers")) cdv A outer s H E) (defBody s_People_numbers) (t_People_numbers K) := by
  
  refine PSs.nox ?_
  exact (pss_one (ps_ret (pe_callB (call_sortedKV rfl) (by rfl) (T.b_sorted) (by decide +kernel) (pa_cons (pe_keysV (pe_fd T.cl_People T.n_People_by_number (pv 0))) pa_nil))))
theorem m_People_numbers (T : Txt w K mg) : U.Met P w K mg base CX0 1 (He.ga K "People") "numbers" (sp_People_numbers K) [] := by
  obtain ⟨fd, F⟩ := T.dd_People_numbers
  have hb : Binds K fd ["self"] [] := F.bindsN (ps := ["self"]) (fun _ _ _ _ _ _ us hl => match us, hl with | [_], _ => rfl)
  exact ⟨⟨_, fd, _, [], T.cl_People, T.m_People_numbers, F.ok (CX := CX0) sc_People_numbers (len_People_numbers K) (fun cdv A outer s H vs Q E hr h => ⟨t_People_numbers K, body_People_numbers T hr, pure_People_numbers vs H Q E h⟩), hb, .nil⟩⟩
theorem body__law_stands (T : Txt w K mg) {cdv : Value} {A : Around} {outer : List Env} {s : Shared} {H : Hp} {E : XK} (hr : Room 2 (A.deeper (envOfC "_law_stands" (defScope s__law_stands) s.heap.objs.size (He.fAd K ("_law_stands", none)) cdv))) : PSs (cxOf CX0 P w K mg base M__law_stands "_law_stands" (defScope s__law_stands) (He.fAd K ("_law_stands", none)) cdv A outer s H E) (defBody s__law_stands) (t__law_stands K) := by
  have m_People_known := m_People_known (P := P) (base := base) T
  have m_People_name_of := m_People_name_of (P := P) (base := base) T
  have m_People_numbers := m_People_numbers (P := P) (base := base) T
  refine PSs.nox ?_
  exact (pss_cons (ps_asg (pv 1) (pg_tup rfl (pgs_cons (pg_name (i := 3) sc__law_stands.nd rfl (by first | exact Or.inl rfl | exact Or.inr rfl)) (pgs_cons (pg_name (i := 4) sc__law_stands.nd rfl (by first | exact Or.inl rfl | exact Or.inr rfl)) pgs_nil))))
  (pss_cons (ps_if (pt_cmpR (op_neD hr.units) (pe_lc (own := [("_law_name", 7)]) (g := (gName 7)) (tt := tYes) rfl sc__law_stands.nd (pi_list (pv 2)) (blkOk_by (N := M__law_stands) (sc := defScope s__law_stands) (own := [("_law_name", 7)]) (by decide +kernel)) (fun _ _ _ _ _ => (pg_name (i := 7) sc__law_stands.nd rfl (by first | exact Or.inl rfl | exact Or.inr rfl))) (fun _ _ _ _ _ => pts_nil) (fun _ _ _ _ _ => (U.pe_mt (E := ES0) m_People_known hr (by decide) ps0 (pv 0) (pa_cons (pv 7) pa_nil)))) (pe_lc (own := [("_law_name", 7)]) (g := (gName 7)) (tt := tYes) rfl sc__law_stands.nd (pi_list (pv 2)) (blkOk_by (N := M__law_stands) (sc := defScope s__law_stands) (own := [("_law_name", 7)]) (by decide +kernel)) (fun _ _ _ _ _ => (pg_name (i := 7) sc__law_stands.nd rfl (by first | exact Or.inl rfl | exact Or.inr rfl))) (fun _ _ _ _ _ => pts_nil) (fun _ _ _ _ _ => (pe_dget1 (hu_of hr) (pv 3) (pv 7) ⟨by rfl, by rfl, by rfl, by rfl⟩))) (nomark _)) (pss_one (ps_ret pe_bl)) pss_nil)
  (pss_cons (ps_for PassesOwn.never rfl (pi_list (pe_op op_cat (pe_listRg rfl (by rfl) (T.b_list) (prg_1 (by rfl) (T.b_range) (pe_op op_add (pe_callB call_lenD (by rfl) (T.b_len) (by decide +kernel) (pa_cons (pv 4) pa_nil)) pe_int))) (pe_lst (pa_cons (pe_un un_neg pe_int) (pa_cons (pe_un un_neg (pe_callB call_lenD (by rfl) (T.b_len) (by decide +kernel) (pa_cons (pv 4) pa_nil))) (pa_cons (pe_op op_pow pe_int pe_int) pa_nil)))))) (pg_name (i := 5) sc__law_stands.nd rfl (by first | exact Or.inl rfl | exact Or.inr rfl)) (pss_one (ps_if (pt_cmpR op_ne (U.pe_mt (E := ES0) m_People_name_of hr (by decide) ps0 (pv 0) (pa_cons (pv 5) pa_nil)) (pe_dget1 (hu_of hr) (pv 4) (pv 5) ⟨by rfl, by rfl, by rfl, by rfl⟩) (nomark _)) (pss_one (ps_ret pe_bl)) pss_nil)))
  (pss_cons (ps_asg (U.pe_mt0 (E := ES0) m_People_numbers hr (by decide) ps0 (pv 0)) (pg_name (i := 6) sc__law_stands.nd rfl (by first | exact Or.inl rfl | exact Or.inr rfl)))
  (pss_cons (ps_if (pt_cmpR (op_neD hr.units) (pv 6) (pe_callB cr_sortedI (by rfl) (T.b_sorted) (by decide +kernel) (pa_cons (pe_lock (pe_lc (own := [("_law_number", 5)]) (g := (gName 5)) (tt := (tTest (tOp rNotNn (tDGet (tVar 4) (tVar 5)) (tC .non)))) rfl sc__law_stands.nd (pi_keys (pv 4)) (blkOk_by (N := M__law_stands) (sc := defScope s__law_stands) (own := [("_law_number", 5)]) (by decide +kernel)) (fun _ _ _ _ _ => (pg_name (i := 5) sc__law_stands.nd rfl (by first | exact Or.inl rfl | exact Or.inr rfl))) (fun _ _ _ _ _ => (pts_one (pt_cmpR op_notN (pe_dget (hu_of hr) (pv 4) (pv 5) (fun _ _ => rfl)) pe_non (nomark _)))) (fun _ _ _ _ _ => (pv 5)))) pa_nil)) (nomark _)) (pss_one (ps_ret pe_bl)) pss_nil)
  (pss_cons (ps_expr (pe_bm PySem.F.plainAttrs_list PySem.F.slot_list_append PySem.F.type_list_append mt_append (pv 6) (pa_cons pe_int pa_nil)))
  (pss_one (ps_ret pe_bl))))))))
theorem c__law_stands (T : Txt w K mg) : U.Cal P w K mg base CX0 3 "_law_stands" (sp__law_stands K) [] := by
  obtain ⟨fd, F⟩ := T.dd__law_stands
  have hb : Binds K fd ["_law_people", "_law_kept", "_law_names_here"] [] := F.bindsN (ps := ["_law_people", "_law_kept", "_law_names_here"]) (fun _ _ _ _ _ _ us hl => match us, hl with | [_, _, _], _ => rfl)
  exact ⟨⟨_, fd, _, [], F.ok (CX := CX0) sc__law_stands (len__law_stands K) (fun cdv A outer s H vs Q E hr h => ⟨t__law_stands K, body__law_stands T hr, pure__law_stands vs H Q E h⟩), T.g__law_stands, F.kp, hb, .nil⟩⟩
theorem body_law (T : Txt w K mg) {cdv : Value} {A : Around} {outer : List Env} {s : Shared} {H : Hp} {E : XK} (hr : Room 5 (A.deeper (envOfC "law" (defScope s_law) s.heap.objs.size (He.fAd K ("law", none)) cdv))) : PSs (cxOf CX0 P w K mg base M_law "law" (defScope s_law) (He.fAd K ("law", none)) cdv A outer s H E) (defBody s_law) (t_law K) := by
  have k_People := k_People (P := P) (base := base) T
  have c__law_cell := c__law_cell (P := P) (base := base) T
  have c__law_done := c__law_done (P := P) (base := base) T
  have c__law_draw := c__law_draw (P := P) (base := base) T
  have c__law_names := c__law_names (P := P) (base := base) T
  have c__law_pot := c__law_pot (P := P) (base := base) T
  have c__law_stands := c__law_stands (P := P) (base := base) T
  refine PSs.nox ?_
  exact (pss_cons (ps_asg (U.pe_c (E := ES0) c__law_names hr (by decide) ps0 (by rfl) (pa_cons (U.pe_c (E := ES0) c__law_pot hr (by decide) ps0 (by rfl) (pa_cons (U.pe_c (E := ES0) c__law_cell hr (by decide) ps0 (by rfl) (pa_cons (pv 0) (pa_cons pe_int pa_nil))) pa_nil)) pa_nil)) (pg_name (i := 1) sc_law.nd rfl (by first | exact Or.inl rfl | exact Or.inr rfl)))
  (pss_cons (ps_asg (pe_lst (pa_cons (U.pe_mk0 (E := ES0) k_People hr (by decide) ps0 (by rfl)) (pa_cons (U.pe_mk0 (E := ES0) k_People hr (by decide) ps0 (by rfl)) pa_nil))) (pg_name (i := 2) sc_law.nd rfl (by first | exact Or.inl rfl | exact Or.inr rfl)))
  (pss_cons (ps_asg (pe_lst (pa_cons (pe_tup (pa_cons (pe_dnewK) (pa_cons (pe_disp (pps_cons pe_int pe_non pps_nil) (by rfl) (by rfl) (fun z => by cases z) (by decide)) pa_nil))) (pa_cons (pe_tup (pa_cons (pe_dnewK) (pa_cons (pe_disp (pps_cons pe_int pe_non pps_nil) (by rfl) (by rfl) (fun z => by cases z) (by decide)) pa_nil))) pa_nil))) (pg_name (i := 3) sc_law.nd rfl (by first | exact Or.inl rfl | exact Or.inr rfl)))
  (pss_cons (ps_for PassesOwn.never rfl (pi_list (pe_slice sl_list (pv 0) (po_some pe_int) (po_some pe_int))) (pg_name (i := 4) sc_law.nd rfl (by first | exact Or.inl rfl | exact Or.inr rfl)) (pss_cons (ps_asg (U.pe_c (E := ES0) c__law_pot hr (by decide) ps0 (by rfl) (pa_cons (pv 4) pa_nil)) (pg_name (i := 5) sc_law.nd rfl (by first | exact Or.inl rfl | exact Or.inr rfl)))
  (pss_cons (ps_asg (U.pe_c (E := ES0) c__law_draw hr (by decide) ps0 (by rfl) (pa_cons (pv 5) (pa_cons pe_int pa_nil))) (pg_name (i := 6) sc_law.nd rfl (by first | exact Or.inl rfl | exact Or.inr rfl)))
  (pss_cons (ps_asg (pe_ix ix_list (pv 1) (U.pe_c (E := ES0) c__law_draw hr (by decide) ps0 (by rfl) (pa_cons (pv 5) (pa_cons pe_int pa_nil))) (fun _ _ => rfl)) (pg_name (i := 7) sc_law.nd rfl (by first | exact Or.inl rfl | exact Or.inr rfl)))
  (pss_cons (ps_asg (U.pe_c (E := ES0) c__law_draw hr (by decide) ps0 (by rfl) (pa_cons (pv 5) (pa_cons pe_int pa_nil))) (pg_name (i := 8) sc_law.nd rfl (by first | exact Or.inl rfl | exact Or.inr rfl)))
  (pss_cons (ps_asg (pe_callB call_lenD (by rfl) (T.b_len) (by decide +kernel) (pa_cons (pe_ix ix_tup (pe_ix ix_list (pv 3) (pv 6) (fun _ _ => rfl)) pe_int (fun _ _ => rfl)) pa_nil)) (pg_name (i := 9) sc_law.nd rfl (by first | exact Or.inl rfl | exact Or.inr rfl)))
  (pss_cons (ps_asg (U.pe_c (E := ES0) c__law_draw hr (by decide) ps0 (by rfl) (pa_cons (pv 5) (pa_cons (pe_op op_add (pv 9) pe_int) pa_nil))) (pg_name (i := 10) sc_law.nd rfl (by first | exact Or.inl rfl | exact Or.inr rfl)))
  (pss_cons (ps_if (pt_cmpR op_ge (pv 10) (pv 9) (nomark _)) (pss_one (ps_asg (pe_ix ix_list (pe_lst (pa_cons pe_int (pa_cons (pe_un un_neg pe_int) (pa_cons (pe_op op_add (pv 9) pe_int) (pa_cons (pe_op op_pow pe_int pe_int) pa_nil))))) (pe_op op_sub (pv 10) (pv 9)) (fun _ _ => rfl)) (pg_name (i := 10) sc_law.nd rfl (by first | exact Or.inl rfl | exact Or.inr rfl)))) pss_nil)
  (pss_cons (ps_if (pt_not (pt_val (U.pe_c (E := ES0) c__law_done hr (by decide) ps0 (by rfl) (pa_cons (pe_ix ix_list (pv 2) (pv 6) (fun _ _ => rfl)) (pa_cons (pe_ix ix_list (pv 3) (pv 6) (fun _ _ => rfl)) (pa_cons (pv 7) (pa_cons (pv 8) (pa_cons (pv 10) pa_nil)))))))) (pss_one (ps_ret pe_bl)) pss_nil)
  (pss_one (ps_for PassesOwn.never rfl (pi_range1 (by rfl) (T.b_range) (pa_cons pe_int pa_nil)) (pg_name (i := 11) sc_law.nd rfl (by first | exact Or.inl rfl | exact Or.inr rfl)) (pss_one (ps_if (pt_not (pt_val (U.pe_c (E := ES0) c__law_stands hr (by decide) ps0 (by rfl) (pa_cons (pe_ix ix_list (pv 2) (pv 11) (fun _ _ => rfl)) (pa_cons (pe_ix ix_list (pv 3) (pv 11) (fun _ _ => rfl)) (pa_cons (pv 1) pa_nil)))))) (pss_one (ps_ret pe_bl)) pss_nil)))))))))))))
  (pss_one (ps_ret pe_bl))))))
theorem ok_law (T : Txt w K mg) : ∃ fd : FuncData, (∀ (s : Shared) (v : Value), BindsTo s fd ⟨[v], []⟩ [("_law_script", v)]) ∧ ∀ base : Heap, FnOk P w K mg base CX0 6 (He.ga K "law") fd ["_law_script"] (sp_law K) := by
  obtain ⟨fd, F⟩ := T.dd_law
  have b := FunD.bindsA (ps := ["_law_script"]) F fun _ _ _ _ _ _ us hl => match us, hl with | [_], _ => rfl
  exact ⟨fd, fun s v => b s [v] rfl, fun base => F.ok (CX := CX0) sc_law (len_law K) (fun cdv A outer s H vs Q E hr h => ⟨t_law K, body_law T hr, pure_law vs H Q E h⟩)⟩
end
def loose0 : List Str := ["HallError", "NoName", "NoPerson", "LETTERS", "MOST_LETTERS", "is_name", "People", "_law_cell", "_law_pot", "_law_draw", "_law_word", "_law_names", "_law_cut", "_law_done", "_law_stands"]
def loose : List Str := loose0
abbrev R : PySem.W.OpenRow := PySem.W.OpenLaw.row PySem.Challenge.rw_forgethall_k12_whole_cut_off_and_wiped
abbrev hk : PySem.W.Hook := He.hookX 6 fa fn [] [] ex
def ob (s : PySem.W.SharedT) : He.AlX := He.obsX 6 fa fn [] [] ex (HandSHeadRun.getT s)
theorem ob_eq (s : PySem.W.SharedT) : ob s = hk.obs s.abs := He.obsX_eq (HandSHeadRun.getT_eq s)
theorem run (w : World) : HandSHeadRun.RunEq R (PySem.W.view R.prog [18]) hk ob 6000 loose w := by
  intro os
  kernel_rfl
end G
open PySem PySem.W PySem.Calls PyProof.Rows
set_option maxRecDepth 100000 in
theorem PySem.Challenge.cw_forgethall_k12_whole_cut_off_and_wiped_holds : PySem.Challenge.rw_forgethall_k12_whole_cut_off_and_wiped.Holds := by
  w_on; o_law
  refine HandSHeadRun.head_any (r := (OpenLaw.row PySem.Challenge.rw_forgethall_k12_whole_cut_off_and_wiped)) (q := view (OpenLaw.row PySem.Challenge.rw_forgethall_k12_whole_cut_off_and_wiped).prog [18]) (H := G.hk) (ob := G.ob) (M := 6000) (loose := G.loose) (d := HandSHeadRun.topDef (OpenLaw.row PySem.Challenge.rw_forgethall_k12_whole_cut_off_and_wiped).prog 18) (kwd := []) G.ob_eq
    (by kernel_rfl) (fun s => by kernel_rfl) G.run (by kernel_rfl) (by kernel_rfl) (by kernel_rfl) (by rfl) (by first | assumption | decide +kernel) (by decide +kernel) ⟨rfl, rfl, rfl, rfl, rfl, by decide +kernel⟩ ?hw ?hc
  case hw => w_witness2
  case hc =>
    refine L2.walk_ofE (l := PySem.Challenge.rw_forgethall_k12_whole_cut_off_and_wiped) (n := 63) (k := 6) (x := "_law_script") (CX := L2.CX0) rfl (by decide) (by kernel_rfl) ⟨rfl, by decide, by decide⟩ ?F (fun _ _ _ _ z => z)
    intro w mg fa h Y GG hmg0
    obtain ⟨K, KX, c⟩ := Y
    have T : G.Txt w K mg := ⟨h, KX, GG, c⟩
    have hmg : mg ("law" : PySem.Str) = some (.ref fa) := by
      have e : (HandSHeadRun.topDef (OpenLaw.row PySem.Challenge.rw_forgethall_k12_whole_cut_off_and_wiped).prog 18).name = ("law" : PySem.Str) := by kernel_rfl
      rw [← e]
      exact hmg0
    have e := hmg.symm.trans T.g_law
    cases e
    obtain ⟨fd, hb, hF⟩ := G.ok_law (P := (PySem.Challenge.rw_forgethall_k12_whole_cut_off_and_wiped).prog) T
    exact ⟨K, fd, G.sp_law K, KX, hb, fun H a ns hl hO hS => G.law_asks K (G.ex12_ok c.more) H a ns hl hO hS, fun base _ _ => hF base⟩
