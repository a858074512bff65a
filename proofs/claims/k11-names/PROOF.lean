import PyProof.Rows.All
import Wide.All
import OpenK.AllK
import Wide.FinOn
import KE.KStateDown
import HandS.ForMost
import HandS.ForExc
import HandS.ExcIs
import HandS.IsInst
import HandS.Codes
import HandS.Conv
import HandS.More
import HandS.SortInts
import HandS.Strs
import HandS.SetKeys
import HandS.Flow
import HandS.NoneIn
import HandS.Defaults
import HandS.CallSlots
import HandS.Deep
import HandS.Wide
import HandS.WideBits
import HandS.Head0
import HandS.Head1
import HandS.Head2
import HandS.HeadEnd
import HandS.HeadHook1
import HandS.HeadHook2
import HandS.HeadHook3
import HandS.HeadHook4
import KE.KSortedM
import PySem.Challenge.RW_forgethall_k11_names_and_numbers
set_option Elab.async false
set_option linter.all false
set_option maxRecDepth 100000
set_option maxHeartbeats 4000000
/-! Own rules over the hand layer: calls by packages, fields by a known class, raising, isinstance in an except suite. -/
namespace U
open PySem PySem.Spec PyProof.Rows L2

/-! ### packages: a def, a method, a class that may be called -/
structure Cal (P : Program) (w : World) (K : PySem.W.Frag) (mg : Str → Option Value) (base : Heap) (CX : CXT) (k : Nat) (x : Str) (sp : Sp) (dvs : List V) : Prop where
  ex : ∃ (f : Addr) (fd : FuncData) (ps : List Str) (ds : List Value), FnOk P w K mg base CX k f fd ps sp ∧ mg x = some (.ref f) ∧ PySem.W.keepIn K (.ref f) = true ∧ Binds K fd ps ds ∧ Vals dvs ds
structure Met (P : Program) (w : World) (K : PySem.W.Frag) (mg : Str → Option Value) (base : Heap) (CX : CXT) (k : Nat) (C : Addr) (m : Str) (sp : Sp) (dvs : List V) : Prop where
  ex : ∃ (f : Addr) (fd : FuncData) (ps : List Str) (ds : List Value), Cls K C ∧ Meth K C m f ∧ FnOk P w K mg base CX k f fd ps sp ∧ Binds K fd ps ds ∧ Vals dvs ds
structure Mak (P : Program) (w : World) (K : PySem.W.Frag) (mg : Str → Option Value) (base : Heap) (CX : CXT) (k : Nat) (x : Str) (C : Addr) (sp : Sp) (dvs : List V) : Prop where
  ex : ∃ (f : Addr) (fd : FuncData) (ps : List Str) (ds : List Value), Mk K C f ∧ FnOk P w K mg base CX k f fd ps sp ∧ mg x = some (.ref C) ∧ Binds K fd ps ds ∧ Vals dvs ds

abbrev tCl : Sp → List V → (L2.St → XK) → TA → TE := L2.tCallSD
def tMt (C : Addr) (m : Str) (sp : Sp) (dvs : List V) (E : L2.St → XK) (ta : TE) (t : TA) : TE := fun σ H Q => ta σ H fun x H1 => ∃ a dx fs, x = .ref a ∧ H1 a = some (.ins C dx fs) ∧ fs.lookup m = none ∧
  t σ H1 fun vs H2 => sp (x :: (vs ++ dvs)) H2 Q (E σ)
def tMk (C : Addr) (sp : Sp) (dvs : List V) (E : L2.St → XK) (t : TA) : TE := fun σ H Q => t σ H fun vs H1 => ∀ x dx, H1 x = none → H1 dx = none → dx ≠ x →
  sp (.ref x :: (vs ++ dvs)) (upd (upd H1 dx (.own x)) x (.ins C dx [])) (fun v H2 => v = .non ∧ Q (.ref x) H2) (E σ)

abbrev ES0 : L2.St → XK := fun _ _ _ _ => False
theorem ps0 {X : Cx} {E : L2.St → XK} : ∀ σ, PassesAt CX0 X σ (E σ) := fun _ _ _ _ _ _ _ h => h.elim

section
variable {X : Cx} {CX : CXT} {k j : Nat} {f C : Addr} {fd : FuncData} {ps : List Str} {sp : Sp} {dvs : List V} {ds : List Value} {E : L2.St → XK} {x m : Str} {p pos apos : Pos} {e o : Expr} {es : List Expr} {ta : TE} {t : TA}
theorem pe_c (c : Cal X.prog X.w X.K X.mg X.base CX k x sp dvs) (hr : Room j X.A) (hk : k ≤ j) (hx : ∀ σ, PassesAt CX X σ (E σ)) (hg : Gl X x) (ha : PA X (e :: es) t)
    (hdb : (x == ("__debug__" : Str)) = false := by decide) (he : starEach (e :: es) X.env = (false, eval e X.env) :: starEach es X.env := by rfl) (hpl : (backTo pos (starEach es X.env)).any (·.1) = false := by rfl) :
    PE X (.Call (.Name x p) (e :: es) [] pos) (tCl sp dvs E t) := by
  obtain ⟨f, fd, ps, ds, F, hm, kp, b, d⟩ := c.ex
  exact L2.pe_callSD F (hr.mono hk) hg hm kp b d hx ha hdb he hpl
theorem pe_c0 (c : Cal X.prog X.w X.K X.mg X.base CX k x sp dvs) (hr : Room j X.A) (hk : k ≤ j) (hx : ∀ σ, PassesAt CX X σ (E σ)) (hg : Gl X x)
    (hdb : (x == ("__debug__" : Str)) = false := by decide) : PE X (.Call (.Name x p) [] [] pos) (tCl sp dvs E tNil) := by
  obtain ⟨f, fd, ps, ds, F, hm, kp, b, d⟩ := c.ex
  refine ⟨fun pins s σ H Q I h => ?_⟩
  refine wpAny_Call_Name_kw (ld_glob I hg hm ?_ hdb)
  exact PySem.W.callWith_K0 I.kIn kp (L2.run_fnSD (us := []) F (hr.mono hk) b d (hx σ) I .nil h)
theorem pe_mt {pl : Sem Bool} (c : Met X.prog X.w X.K X.mg X.base CX k C m sp dvs) (hr : Room j X.A) (hk : k ≤ j) (hx : ∀ σ, PassesAt CX X σ (E σ)) (he : PE X o ta) (ha : PA X (e :: es) t)
    (hst : starEach (e :: es) X.env = (false, eval e X.env) :: starEach es X.env := by rfl) (hpl : (backTo pos (starEach es X.env)).any (·.1) = false := by rfl)
    (ht : eval (.Call (.Attribute o m apos) (e :: es) [] pos) X.env = (do
      let ov ← eval o X.env
      standAt apos.atName
      let (f, first) ← holding [ov] (getMethod ov m pl)
      callWith pos f first (backTo pos (starEach (e :: es) X.env)) (backToKw pos (keywordEach [] X.env))) := by rfl) :
    PE X (.Call (.Attribute o m apos) (e :: es) [] pos) (tMt C m sp dvs E ta t) := by
  obtain ⟨f, fd, ps, ds, hc, hm, F, b, d⟩ := c.ex
  refine ⟨fun pins s σ H Q I h => ?_⟩
  refine PySem.W.methodCall_KW (pl := pl) (thn (he.run pins s σ H _ I h) fun u s1 ⟨x, H1, I1, rx, a, dx, fs, ex, ea, l, q⟩ => ?_) ht
  subst ex
  obtain rfl : u = Value.ref a := rx
  refine getmeth_ok I1 ea hc hm l ?_
  refine PySem.W.callWith_K (first := [.ref a]) (h₀ := X.base) I.ok.mod.kin hm.kp (thn (ha.run pos pins s1 σ H1 _ I1 q) fun us s2 ⟨vs, H2, I2, r, q2⟩ => ⟨I2.kIn, ?_⟩) hst hpl
  exact L2.run_fnSD (us := .ref a :: us) (vs := .ref a :: vs) F (hr.mono hk) b d (hx σ) I2 (.cons rfl r) q2
theorem pe_mt0 {pl : Sem Bool} (c : Met X.prog X.w X.K X.mg X.base CX k C m sp dvs) (hr : Room j X.A) (hk : k ≤ j) (hx : ∀ σ, PassesAt CX X σ (E σ)) (he : PE X o ta)
    (ht : eval (.Call (.Attribute o m apos) [] [] pos) X.env = (do
      let ov ← eval o X.env
      standAt apos.atName
      let (f, first) ← holding [ov] (getMethod ov m pl)
      callWith pos f first (backTo pos (starEach [] X.env)) (backToKw pos (keywordEach [] X.env))) := by rfl) :
    PE X (.Call (.Attribute o m apos) [] [] pos) (tMt C m sp dvs E ta tNil) := by
  obtain ⟨f, fd, ps, ds, hc, hm, F, b, d⟩ := c.ex
  refine ⟨fun pins s σ H Q I h => ?_⟩
  refine PySem.W.methodCall_KW (pl := pl) (thn (he.run pins s σ H _ I h) fun u s1 ⟨x, H1, I1, rx, a, dx, fs, ex, ea, l, q⟩ => ?_) ht
  subst ex
  obtain rfl : u = Value.ref a := rx
  refine getmeth_ok I1 ea hc hm l ?_
  exact PySem.W.callWith_K0 (first := [.ref a]) I1.kIn hm.kp (L2.run_fnSD (us := [.ref a]) (vs := [.ref a]) F (hr.mono hk) b d (hx σ) I1 (.cons rfl .nil) q)
theorem run_mk {pins : List (Addr × Obj)} {σ : L2.St} {H : Hp} {s : Shared} {Q : VK} {us : List Value} {vs : List V} (M : Mk X.K C f) (F : FnOk X.prog X.w X.K X.mg X.base CX k f fd ps sp) (hr : Room (k + 1) X.A) (hb : Binds X.K fd ps ds) (hd : Vals dvs ds)
    (hx : PassesAt CX X σ (E σ)) (I : Inv X pins σ H s) (r : Vals vs us)
    (h : ∀ x dx, H x = none → H dx = none → dx ≠ x → sp (.ref x :: (vs ++ dvs)) (upd (upd H dx (.own x)) x (.ins C dx [])) (fun v H2 => v = .non ∧ Q (.ref x) H2) (E σ)) :
    wpAny (model X.prog X.w) X.A (call (.ref C) us) (EP X pins σ Q) X.xe s := by
  have hq := h (s.heap.objs.size + 1) s.heap.objs.size (I.hok.fresh (Nat.le_succ _)) (I.hok.fresh (Nat.le_refl _)) (Nat.ne_of_lt (Nat.lt_succ_self _))
  have I2 := Inv.made (C := C) I
  have r2 : Vals (V.ref (s.heap.objs.size + 1) :: (vs ++ dvs)) (Value.ref (s.heap.objs.size + 1) :: (us ++ ds)) := .cons rfl (r.append hd)
  have hl : (Value.ref (s.heap.objs.size + 1) :: us ++ ds).length = ps.length := by
    have e := r2.length
    rw [F.len _ _ _ _ hq] at e
    exact e.symm
  refine wpAny_call (make_map (f := f) I.kIn M.makes M.init (beq_iff_eq.mp M.fn) (codeAny_mono (F.run _ X.stack _ _ ⟨Value.ref (s.heap.objs.size + 1) :: us, []⟩ (Value.ref (s.heap.objs.size + 1) :: (us ++ ds)) _ _ (E σ) (hr.make C us [])
    (I2.env0.make C us []) (hb _ (Value.ref (s.heap.objs.size + 1) :: us) I2.kIn hl) r2 hq) fun r s' hq' => ?_))
  cases r with
  | error e => exact hx pins _ _ e s' I2 hq'
  | ok fl =>
    cases fl with
    | ret u =>
      obtain ⟨v, H', I3, rv, ev, q3⟩ := I2.after hq'
      subst ev
      exact ⟨rv, ⟨V.ref (s.heap.objs.size + 1), H', I3, rfl, q3⟩⟩
    | next => exact False.elim hq'
    | brk => exact False.elim hq'
    | cont => exact False.elim hq'
theorem pe_mk (c : Mak X.prog X.w X.K X.mg X.base CX k x C sp dvs) (hr : Room j X.A) (hk : k + 1 ≤ j) (hx : ∀ σ, PassesAt CX X σ (E σ)) (hg : Gl X x) (ha : PA X (e :: es) t)
    (hdb : (x == ("__debug__" : Str)) = false := by decide) (he : starEach (e :: es) X.env = (false, eval e X.env) :: starEach es X.env := by rfl) (hpl : (backTo pos (starEach es X.env)).any (·.1) = false := by rfl) :
    PE X (.Call (.Name x p) (e :: es) [] pos) (tMk C sp dvs E t) := by
  obtain ⟨f, fd, ps, ds, M, F, hm, b, d⟩ := c.ex
  refine ⟨fun pins s σ H Q I h => ?_⟩
  refine wpAny_Call_Name_kw (ld_glob I hg hm ?_ hdb)
  refine PySem.W.callWith_K (h₀ := X.base) I.ok.mod.kin M.kp (thn (ha.run pos pins s σ H _ I h) fun us s1 ⟨vs, H1, I1, r, q⟩ => ⟨I1.kIn, ?_⟩) he hpl
  exact run_mk M F (hr.mono hk) b d (hx σ) I1 r q
theorem pe_mk0 (c : Mak X.prog X.w X.K X.mg X.base CX k x C sp dvs) (hr : Room j X.A) (hk : k + 1 ≤ j) (hx : ∀ σ, PassesAt CX X σ (E σ)) (hg : Gl X x)
    (hdb : (x == ("__debug__" : Str)) = false := by decide) : PE X (.Call (.Name x p) [] [] pos) (tMk C sp dvs E tNil) := by
  obtain ⟨f, fd, ps, ds, M, F, hm, b, d⟩ := c.ex
  refine ⟨fun pins s σ H Q I h => ?_⟩
  refine wpAny_Call_Name_kw (ld_glob I hg hm ?_ hdb)
  exact PySem.W.callWith_K0 I.kIn M.kp (run_mk (us := []) M F (hr.mono hk) b d (hx σ) I .nil h)
end

/-! ### a field of an instance of a known class -/
def tFd (C : Addr) (ta : TE) (f : Str) : TE := fun σ H Q => ta σ H fun x H1 => ∃ a dx fs v, x = .ref a ∧ H1 a = some (.ins C dx fs) ∧ fs.lookup f = some v ∧ Q v H1
def sFd (C : Addr) (ta tv : TE) (f : Str) : TS := fun D σ H => tv σ H fun y H1 => ta σ H1 fun x H2 => ∃ a dx fs, x = .ref a ∧ H2 a = some (.ins C dx fs) ∧ fs.length < 1000 ∧ D.nx σ (upd H2 a (.ins C dx (putF f y fs)))
/-- e.f += value, whole numbers -/
def sFdAdd (C : Addr) (ta tv : TE) (f : Str) : TS := fun D σ H => ta σ H fun x H1 => ∃ a dx fs i, x = .ref a ∧ H1 a = some (.ins C dx fs) ∧ fs.lookup f = some (.int i) ∧
  tv σ H1 fun y H2 => ∃ j dx' fs', y = .int j ∧ H2 a = some (.ins C dx' fs') ∧ fs'.length < 1000 ∧ D.nx σ (upd H2 a (.ins C dx' (putF f (.int (i + j)) fs')))
section
variable {X : Cx} {o e value : Expr} {f : Str} {pos pos' tpos : Pos} {ta tv : TE} {C : Addr}
theorem pe_fd (c : Cls X.K C) (n : NoAttr X.K C f) (he : PE X e ta) (hb : attributeBase e f X.env (eval e X.env) = eval e X.env := by rfl) : PE X (.Attribute e f pos) (tFd C ta f) := by
  refine ⟨fun pins s σ H Q I h => ?_⟩
  refine attr_of hb (thn (he.run pins s σ H _ I h) fun u s1 ⟨x, H1, I1, rx, a, dx, fs, v, ex, ea, l, q⟩ => ?_)
  subst ex
  obtain rfl : u = Value.ref a := rx
  exact getattr_ok I1 ea c n l fun u' s2 I2 ru => ⟨v, H1, I2, ru, q⟩
theorem ps_fd (c : Cls X.K C) (n : NoAttr X.K C f) (ha : PE X o ta) (hv : PE X value tv) (hs : swapsWith value (some (.Attribute o f pos')) pos.line X.env = pure false := by rfl) : PS X (.Assign [.Attribute o f pos'] value pos) (sFd C ta tv f) := by
  refine ⟨fun pins s σ H D I h => ?_⟩
  refine plainObj_wpAny_Assign_Attribute (thn (hv.run pins s σ H _ I h) fun u s1 ⟨y, H1, I1, ry, q⟩ => thn (ha.run pins s1 σ H1 _ I1 q) fun ov s2 ⟨x, H2, I2, rx, a, dx, fs, ex, ea, l, q2⟩ => ?_) hs
  subst ex
  obtain rfl : ov = Value.ref a := rx
  exact setattr_ok I2 ea c n l ry fun s3 I3 => ⟨σ, _, I3, q2⟩
theorem ps_fdadd (c : Cls X.K C) (n : NoAttr X.K C f) (ha : PE X o ta) (hv : PE X value tv) : PS X (.AugAssign (.Attribute o f tpos) .Add value pos) (sFdAdd C ta tv f) := by
  refine ⟨fun pins s σ H D I h => ?_⟩
  refine wpAny_AugAssign_AttributeAny (thn (ha.run pins s σ H _ I h) fun ov s1 ⟨x, H1, I1, rx, a, dx, fs, i, ex, ea, l, q⟩ => ?_)
  subst ex
  obtain rfl : ov = Value.ref a := rx
  refine getattr_ok I1 ea c n l fun u s2 I2 ru => thn (hv.run pins s2 σ H1 _ I2 q) fun w3 s3 ⟨y, H2, I3, ry, j, dx', fs', ey, ea', l', q3⟩ => ?_
  subst ey
  refine thn (in_add (X := X) pins s3 σ H2 (.int i) (.int j) u w3 (fun z H3 => z = .int (i + j) ∧ H3 = H2) I3 ru ry ⟨i, j, rfl, rfl, rfl, rfl⟩) fun w4 s4 ⟨z, H3, I4, rz, ez, eH⟩ => ?_
  subst ez
  subst eH
  exact setattr_ok I4 ea' c n l' rz fun s5 I5 => ⟨σ, _, I5, q3⟩
end

/-! ### constants of the module -/
section
variable {X : Cx} {x : Str} {pos : Pos}
theorem pe_gi {i : Int} (hg : Gl X x) (h : ∃ t, X.mg x = some (.int i t)) (hd : (x == ("__debug__" : Str)) = false := by decide) : PE X (.Name x pos) (tC (.int i)) := by
  obtain ⟨t, h⟩ := h
  exact pe_glob hg h ⟨t, rfl⟩ hd
theorem pe_gs {z : Str} (hg : Gl X x) (h : ∃ t, X.mg x = some (.str z t)) (hd : (x == ("__debug__" : Str)) = false := by decide) : PE X (.Name x pos) (tC (.str z)) := by
  obtain ⟨t, h⟩ := h
  exact pe_glob hg h ⟨t, rfl⟩ hd
theorem pe_gr {a : Addr} (hg : Gl X x) (h : X.mg x = some (.ref a)) (hd : (x == ("__debug__" : Str)) = false := by decide) : PE X (.Name x pos) (tC (.ref a)) := pe_glob hg h rfl hd
theorem pe_ty {T : String} (hg : Gl X x) (hm : X.mg x = none) (hv : bootBuiltins x = some (.type T)) (hn : x ≠ "__name__" := by decide) (hd : (x == ("__debug__" : Str)) = false := by decide) : PE X (.Name x pos) (tC (.ty T)) := pe_bltn hg hm hv rfl hn hd
end

/-! ### raising: own classes over HallError, made with a text -/
/-- what the written part says of an error class -/
structure ErrC (K : PySem.W.Frag) (C : Addr) : Prop where
  x : PySem.W.excIn K C He.veBase "ValueError.__new__" = true
  k : PySem.W.keepIn K (.ref C) = true
  b : PySem.W.subIn K (.ref C) (.type "BaseException") = some true
  t : PySem.W.typeIn K (.ref C) = some (.type "type")
def tRs (C : Addr) (W : WX) : TS := fun _ σ H => W (.ref C) none σ H
theorem ps_rs {X : Cx} {C : Addr} {W : WX} {x m : Str} {j : Nat} {p p2 pos pos2 : Pos} (hc : X.calm = true) (tk : Takes X W) (T : ErrC X.K C) (gC : X.mg x = some (.ref C)) (hg : Gl X x) (hdb : (x == ("__debug__" : Str)) = false := by decide) :
    PS X (.Raise (some (.Call (.Name x p) [.Constant (.str m) j p2] [] pos)) none pos2) (tRs C W) :=
  ps_raise hc tk (pmk_own PySem.F.excBase_ValueError T.x gC T.k (raises_own T.b T.t) hg hdb)

/-! ### isinstance of a caught error -/
def rIsX (K : PySem.W.Frag) (a : Addr) (cls : Value) (d : Option Addr) : List V → Hp → VK → Prop := fun xs H Q => ∃ (D : Addr) (c : V) (cv : Value) (b : Bool), cls = .ref D ∧ d = none ∧ ExcC K D ∧ xs = [.ref a, c] ∧ ClsV c cv ∧ PySem.W.kitOne K (.ref D) cv = some b ∧ Q (.bl b) H
def rIsXT (K : PySem.W.Frag) (a : Addr) (cls : Value) (d : Option Addr) : List V → Hp → VK → Prop := fun xs H Q => ∃ (D tp : Addr) (cs : List V) (us : List Value) (b : Bool), cls = .ref D ∧ d = none ∧ ExcC K D ∧ xs = [.ref a, .ref tp] ∧ H tp = some (.tup cs) ∧ Paired ClsV cs us ∧ PySem.W.kitAny K (.ref D) us = some b ∧ Q (.bl b) H
section
variable {X : Cx} {a : Addr} {oe : Obj} {cls : Value} {d : Option Addr} {pn : List (Addr × Obj)}
theorem inst_exc {pins : List (Addr × Obj)} {s : Shared} {σ : L2.St} {H : Hp} {D : Addr} (hz : Zc (.ref D) none oe) (hf : ∃ vs, oe.data = .fields vs) (I : Inv (X.suite a ((a, oe) :: pn)) pins σ H s) : PySem.W.InstAt s.heap a oe D none := by
  obtain ⟨hget, _⟩ := I.pin (a, oe) (List.mem_append.mpr (.inl List.mem_cons_self))
  obtain ⟨vs, hv⟩ := hf
  obtain ⟨oc, od, oda, osl⟩ := oe
  obtain ⟨h1, h2⟩ := hz
  dsimp only at h1 h2 hv
  subst h1 h2 hv
  exact ⟨hget, rfl, rfl, trivial⟩
theorem call_isX (hz : Zc cls d oe) (hf : ∃ vs, oe.data = .fields vs) : CallR (X.suite a ((a, oe) :: pn)) (.builtin "isinstance") (rIsX X.K a cls d) := by
  intro pins s σ H xs us Q I r h
  obtain ⟨D, c, cv, b, rfl, rfl, C, rfl, hcv, e, q⟩ := h
  obtain ⟨u1, u2, rfl, r1, r2⟩ := vals2 r
  have e2 := hcv.eq r2
  subst e2
  cases (show u1 = Value.ref a from r1)
  exact PySem.W.kia_one (PySem.W.handS_kitx_exc C.hg C.hk C.hs C.hd C.ha C.hn C.ht C.hm) I.kIn (inst_exc hz hf I) e (fun z => nomatch z) fun tk => ⟨.bl b, H, I.kept (t' := tk) fun _ _ z => z, rfl, q⟩
theorem call_isXT (hz : Zc cls d oe) (hf : ∃ vs, oe.data = .fields vs) : CallR (X.suite a ((a, oe) :: pn)) (.builtin "isinstance") (rIsXT X.K a cls d) := by
  intro pins s σ H xs us Q I r h
  obtain ⟨D, tp, cs, ws, b, rfl, rfl, C, rfl, hT, k, e, q⟩ := h
  obtain ⟨u1, u2, rfl, r1, r2⟩ := vals2 r
  cases (show u2 = Value.ref tp from r2)
  cases (show u1 = Value.ref a from r1)
  obtain ⟨_, its, rv, o, h1, h2, n, h3⟩ := (show ObjOk X.prog X.w H s.heap tp (.tup cs) from I.hok tp _ hT)
  have e3 := ClsV.all k rv
  subst e3
  obtain ⟨oc, od, dt, sl⟩ := o
  simp only at h2 h3
  subst h2 h3
  exact PySem.W.kia_tup (PySem.W.handS_kitx_exc C.hg C.hk C.hs C.hd C.ha C.hn C.ht C.hm) I.kIn (inst_exc hz hf I) h1 e (fun z => nomatch z) fun tk => ⟨.bl b, H, I.kept (t' := tk) fun _ _ z => z, rfl, q⟩
end
end U

set_option Elab.async false
set_option linter.all false
set_option maxRecDepth 100000
set_option maxHeartbeats 4000000
/-! Names for the readings, so that readings can be printed by a program. -/
namespace U
open PySem PySem.Spec PyProof.Rows L2
abbrev rAddI : R2 := rI0 fun i j => .int (i + j)
abbrev rSubI : R2 := rI0 fun i j => .int (i - j)
abbrev rMulI : R2 := rI CMul fun i j => .int (i * j)
abbrev rFdivI : R2 := rI CDivW fun i j => .int (i / j)
abbrev rModI : R2 := rI (fun _ j => 0 < j) fun i j => .int (i % j)
abbrev rPowI : R2 := rI CPow fun i j => .int (i ^ j.toNat)
abbrev rLtI : R2 := rI0 fun i j => .bl (decide (i < j))
abbrev rLeI : R2 := rI0 fun i j => .bl (decide (i ≤ j))
abbrev rGtI : R2 := rI0 fun i j => .bl (decide (j < i))
abbrev rGeI : R2 := rI0 fun i j => .bl (decide (j ≤ i))
abbrev rIsNn : R2 := fun x y H Q => y = .non ∧ Q (.bl (decide (x = .non))) H
abbrev rNotNn : R2 := fun x y H Q => y = .non ∧ Q (.bl (!decide (x = .non))) H
abbrev rAddS : R2 := fun x y H Q => ∃ i j, x = .str i ∧ y = .str j ∧ i.length + j.length ≤ sizeLine ∧ Q (.str (i ++ j)) H
abbrev rInSg : R2 := fun x y H Q => ∃ (c : Nat) (z : Str), x = .str ⟨#[c]⟩ ∧ y = .str z ∧ Q (.bl (decide (c ∈ z.cps.toList))) H
abbrev rNiSg : R2 := fun x y H Q => ∃ (c : Nat) (z : Str), x = .str ⟨#[c]⟩ ∧ y = .str z ∧ Q (.bl (!decide (c ∈ z.cps.toList))) H
abbrev RC := List V → Hp → VK → Prop
abbrev RM := V → List V → Hp → VK → Prop
abbrev rAbs : RC := fun xs H Q => ∃ i, xs = [.int i] ∧ Q (.int (if i < 0 then -i else i)) H
abbrev rMax2 : RC := fun xs H Q => ∃ i j, xs = [.int i, .int j] ∧ Q (.int (if j > i then j else i)) H
abbrev rMin2 : RC := fun xs H Q => ∃ i j, xs = [.int i, .int j] ∧ Q (.int (if j < i then j else i)) H
abbrev rDivmod : RC := fun xs H Q => ∃ i j, xs = [.int i, .int j] ∧ CDivP i j ∧ ∀ p, H p = none → Q (.ref p) (upd H p (.tup [.int (i / j), .int (i % j)]))
theorem two200 : (2 : Nat) ^ 200 = 1606938044258990275541962092341162602522202993782792835301376 := by decide
theorem cdw {i j : Int} (h0 : 0 < j) (h1 : j ≤ 1000000000000000000000000000000000000000000000000000000000000) : CDivW i j := by
  refine wide_div (b := 200) h0 ?_ (by decide) (by decide)
  rw [two200]
  omega
theorem cdp {i j : Int} (h0 : 0 < j) (h1 : j ≤ 1000000000000000000000000000000000000000000000000000000000000) : CDivP i j := ⟨h0, PyProof.noPylong_of_log2 (cdw (i := i) h0 h1).2⟩
abbrev rLenSeq (K : PySem.W.Frag) : RC := fun xs H Q => ∃ p ys, xs = [.ref p] ∧ (SqL K H p ys ∨ SqT K H p ys) ∧ Q (.int ys.length) H
abbrev rLenStr : RC := fun xs H Q => ∃ z, xs = [.str z] ∧ z.length ≤ sizeLine ∧ Q (.int z.length) H
abbrev rLenDc : RC := fun xs H Q => ∃ a kvs, xs = [V.ref a] ∧ H a = some (.dK kvs) ∧ Q (.int kvs.length) H
abbrev rListOf (K : PySem.W.Frag) : RC := fun xs H Q => ∃ p ys, xs = [.ref p] ∧ (SqL K H p ys ∨ SqT K H p ys) ∧ ∀ l, H l = none → Q (.ref l) (upd H l (.lst ys))
abbrev rTupleOf (K : PySem.W.Frag) : RC := fun xs H Q => ∃ p ys, xs = [.ref p] ∧ ((SqL K H p ys ∧ ∀ l, H l = none → Q (.ref l) (upd H l (.tup ys))) ∨ (SqT K H p ys ∧ Q (.ref p) H))
abbrev rStrInt : RC := fun xs H Q => ∃ i, xs = [.int i] ∧ i.natAbs.log2 < 1920 ∧ Q (.str (toString i)) H
abbrev rInt1 : RC := fun xs H Q => (∃ i, xs = [.int i] ∧ Q (.int i) H) ∨ ∃ k, xs = [.bl k] ∧ Q (.int (if k then 1 else 0)) H
abbrev rIntStr : RC := fun xs H Q => ∃ a n, xs = [.str a] ∧ PySem.intText? a = some n ∧ a.length ≤ 640 ∧ Q (.int n) H
abbrev mJoin (K : PySem.W.Frag) : RM := fun x xs H Q => ∃ a p, ∃ ys : List Str, x = .str a ∧ xs = [.ref p] ∧ (SqL K H p (ys.map V.str) ∨ SqT K H p (ys.map V.str)) ∧
  (ys.map (·.length)).sum + ys.length * a.length ≤ 16777216 ∧ Q (.str (Txt.join a ys)) H
abbrev mPartition : RM := fun x xs H Q => ∃ a b, x = .str a ∧ xs = [.str b] ∧ (b.length == 0) = false ∧ a.length ≤ sizeLine ∧
  ∀ p, H p = none → Q (.ref p) (upd H p (.tup [.str (Txt.partition a b).1, .str (Txt.partition a b).2.1, .str (Txt.partition a b).2.2]))
abbrev mSplit : RM := fun x xs H Q => ∃ a b, x = .str a ∧ xs = [.str b] ∧ (b.length == 0) = false ∧ a.length + 2 ≤ sizeLine ∧ rNewStrs (Txt.split a b) H Q
abbrev mStarts : RM := fun x xs H Q => ∃ a b, x = .str a ∧ xs = [.str b] ∧ Q (.bl (Txt.startswith a b)) H
abbrev mEnds : RM := fun x xs H Q => ∃ a b, x = .str a ∧ xs = [.str b] ∧ Q (.bl (Txt.endswith a b)) H
abbrev rMulS : R2 := fun x y H Q => ∃ a n, x = .str a ∧ y = .int n ∧ MulOk a n ∧ Q (.str (Txt.mul a n)) H
theorem op_mulS {X : Cx} : OpR X (binaryOp .Mult) rMulS := by
  intro pins s σ H x y v u Q I rx ry h
  obtain ⟨a, n, rfl, rfl, ok, q⟩ := h
  obtain ⟨t, rfl⟩ := rx
  obtain ⟨t', rfl⟩ := ry
  exact SB.mul ok fun t2 k => ⟨.str _, H, I.tok k, ⟨t2, rfl⟩, q⟩

/-! ### d.keys() as a value; sorted(d.keys()) -/
def KeysO (p d : Addr) : HO := .ext fun h => PySem.W.KdlKeysView h p d
def tKeysV (td : TE) : TE := fun σ H Q => td σ H fun x H1 => ∃ d kvs, x = .ref d ∧ Rd H1 d (.dK kvs) ∧ ∀ p, H1 p = none → Q (.ref p) (upd H1 p (KeysO p d))
theorem pe_keysV {X : Cx} {e : Expr} {td : TE} {apos cpos : Pos} (he : PE X e td) (hbase : attributeBase e "keys" X.env (eval e X.env) = eval e X.env := by rfl) (hline : (apos.endLine == cpos.line) = true := by rfl) : PE X (.Call (.Attribute e "keys" apos) [] [] cpos) (tKeysV td) := by
  refine ⟨fun pins s σ H Q I h => ?_⟩
  refine wpAny_Call_method (T := "dict") (id := "dict.keys") hbase rfl hline F.plainAttrs_dict F.slot_dict_keys F.type_dict_keys (thn (he.run pins s σ H _ I h) fun u s1 ⟨x, H1, I1, rx, d, kvs, ex, hd, q⟩ => ?_)
  subst ex
  obtain rfl : u = Value.ref d := rx
  obtain ⟨z, hs, vs, rel, dd⟩ := dk_rd I1.hok hd
  refine ⟨dd.typeIs, dd.mapOf.noDict, ?_⟩
  have ho : (s1.heap.push { cls := .type "dict_keys", data := .fields #[.ref d] }).get? s1.heap.objs.size = some { cls := .type "dict_keys", data := .fields #[.ref d] } := Heap.get?_push_size _ rfl
  have I2 : Inv X pins σ (upd H1 s1.heap.objs.size (KeysO s1.heap.objs.size d)) { s1 with heap := s1.heap.push { cls := .type "dict_keys", data := .fields #[.ref d] } } :=
    I1.laid (t' := s1.toks) (fun b ob q => Heap.get?_push_of_some _ q) (Nat.le_refl _) ⟨⟨_, ho, rfl, rfl⟩, ⟨_, ho⟩, fun h1 h2 ⟨o, e1, e2⟩ k => ⟨o, k o e1, e2⟩⟩
  show wpAny _ _ (callWith cpos (.builtin "dict.keys") [.ref d] [] []) _ X.xe s1
  exact method_meetsIn F.slot_dict_keys F.entry_dict_keys rfl (PySem.evalArgs_none ⟨rfl, dd.typeIs, F.args_dict_keys_1 _, _, PySem.W.kdl_meets_keys (mixKind X.prog X.w) d hs, ⟨vs, dd⟩, ⟨.ref s1.heap.objs.size, _, I2, rfl, q _ (I1.hok.fresh (Nat.le_refl _))⟩⟩)
/-- sorted(d.keys()), fewer than 64 whole numbers -/
abbrev rSortedKV : RC := fun xs H Q => ∃ (a d : Addr) (kvs : List (Key × V)) (ks : List Int), xs = [.ref a] ∧ H a = some (KeysO a d) ∧ Rd H d (.dK kvs) ∧ kvs.map (·.1) = ks.map Sum.inl ∧ ks.length < 64 ∧
  ∀ (ys : List Int) (p : Addr), ys.Perm ks → ys.Pairwise (· ≤ ·) → H p = none → Q (.ref p) (upd H p (.lst (ys.map V.int)))
theorem call_sortedKV {X : Cx} (hcalm : X.calm = true) : CallR X (.builtin "sorted") rSortedKV := by
  intro pins s σ H xs us Q I r q
  obtain ⟨a, d, kvs, ks, ex, ha, hd, hks, h64, q⟩ := q
  subst ex
  obtain ⟨u, eu, rx⟩ := vals1 r
  subst eu
  cases rx
  obtain ⟨z, lo, vs, rel, dd⟩ := dk_rd I.hok hd
  obtain ⟨ep, hat⟩ := dd.dictAt
  obtain ⟨view, _, _⟩ := (show ObjOk X.prog X.w H s.heap a (KeysO a d) from I.hok a _ ha)
  have hkeys : vs.map (·.1) = ks.map Sum.inl := rel.keys.symm.trans hks
  have hl : vs.length = ks.length := by
    have e := congrArg List.length hkeys
    rw [List.length_map, List.length_map] at e
    exact e
  have h16 : vs.length ≤ sizeLine := by rw [hl, sizeLine_eq]; omega
  refine Calls.call_function_entry PyProof.Rows.kind_sorted PyProof.Rows.plain_sorted PyProof.Rows.entry_sorted (PyProof.Rows.args_sorted1 _) ?_
  unfold Builtin.«sorted»
  refine wpAny_bind (m := checkCount "sorted" 1 1 _) (wpAny_pure ?_)
  refine wpAny_bind (PySem.W.kdu_collect (A := X.A.in1) (PySem.W.kdl_keys (r := a) (d := d) (knd := mixKind X.prog X.w) (kvs := vs) (ep := ep)) (I.ok.hd hcalm) ⟨view, hat⟩ h16 fun h' tk acc hk hacc => ?_)
  have hal : acc.toList.length = ks.length := by rw [Array.length_toList, hacc.1, hl]
  have hS : IntsAre acc.toList ks := ints_each hal fun j v e => by
    obtain ⟨k, x, e1, e2⟩ := hacc.2 j v (by rw [← Array.getElem?_toList]; exact e)
    have e3 : (vs.map (·.1))[j]? = some k := by rw [List.getElem?_map, e1]; rfl
    rw [hkeys, List.getElem?_map] at e3
    cases e4 : ks[j]? with
    | none => rw [e4] at e3; cases e3
    | some y =>
      rw [e4] at e3
      have e5 : Sum.inl y = k := Option.some.inj e3
      subst e5
      rcases keyIs_shape (show keyIs (Sum.inl y) v = true from e2) with ⟨i, t, ek, ev⟩ | ⟨z, t, ek, ev⟩
      · cases ek
        exact ⟨y, t, rfl, ev⟩
      · cases ek
  have I1 : Inv X pins σ H { s with heap := h', toks := tk } := I.kept hk
  refine wpAny_bind (wpAny_newList ?_ (by rw [hal, sizeLine_eq]; omega))
  have hoL : (h'.push (seqObj "list" acc.toList.toArray 0)).get? h'.objs.size = some (seqObj "list" acc.toList.toArray 0) := Heap.get?_push_size _ rfl
  show wpAny _ _ _ _ _ { s with heap := h'.push (seqObj "list" acc.toList.toArray 0), toks := tk }
  refine wpAny_bind (wpAny_holding (wpAny_call_entry PyProof.Rows.slot_list_sort ⟨_, hoL, rfl⟩ PyProof.Rows.entry_list_sort
    (PyProof.Rows.list_sort_tree (s := { s with heap := h'.push (seqObj "list" acc.toList.toArray 0), toks := tk }) hoL hS (by rw [hal]; exact h64) fun out ys g1 g2 g3 => ⟨_, rfl, ?_⟩) (PyProof.Rows.args_list_sort _)))
  obtain ⟨e', he'⟩ := PyProof.Rows.sortedHeap_at (vs := acc.toList) (out := out) hoL
  have hlen : (ys.map V.int).length ≤ sizeLine := by
    rw [List.length_map, g2.length_eq]
    exact Nat.le_trans (Nat.le_of_lt h64) (by decide)
  refine wpAny_pure ⟨_, rfl, .ref h'.objs.size, upd H h'.objs.size (.lst (ys.map V.int)), I1.laid (t' := tk) (fun b u e => ?_) (Nat.le_refl _)
    (show ObjOk X.prog X.w _ _ _ (.lst (ys.map V.int)) from ⟨hlen, out.toList, e', vals_of_ints g1, by rw [Array.toArray_toList]; exact he'⟩), rfl, q ys _ g2 g3 (I1.hok.fresh (Nat.le_refl _))⟩
  have hb : b < h'.objs.size := Heap.lt_size e
  rw [PyProof.Rows.sortedHeap_old (Nat.ne_of_lt hb) (by rw [size_push']; exact Nat.lt_succ_of_lt hb)]
  exact Heap.get?_push_of_some _ e

/-! ### errors -/
theorem psL {X : Cx} : ∀ σ, PassesAt (L2.CX X.prog X.w) X σ (ES0 σ) := fun _ _ _ _ _ _ _ h => by
  obtain ⟨_, _, _, _, _, _, _, _, _, _, _, _, z⟩ := h
  exact z.elim
def errNames : List Str := ["NoName", "BadKind", "NoText", "NoPerson", "Taken", "NoKind", "NoMatter", "NoThing", "NoWay", "NoRows", "NoDay", "NoHold", "NoTelling", "NoAnswer", "Answered"]
def excB (K : PySem.W.Frag) (D : Addr) : Bool :=
  He.eqO (PySem.W.findIn K (.ref D) "__getattribute__") (some (some (.builtin "BaseException.__getattribute__"))) && (He.eqO (PySem.W.findIn K (.ref D) "__getattr__") (some none) &&
  (decide (PySem.W.subIn K (.ref D) (.type "BaseException") = some true) && (PySem.W.hasDictIn K D && (He.eqO (PySem.W.findIn K (.ref D) "__class__") (some (some (.builtin "object.__class__"))) &&
  (He.eqO (PySem.W.specialIn K (.builtin "object.__class__") "__get__") (some (some (.builtin "getset_descriptor.__get__"))) && (decide (PySem.W.takesIn K (.builtin "object.__class__") = some true) && decide (PySem.W.mroIn K D (.type "object") = some true)))))))
theorem excB_ok {K : PySem.W.Frag} {D : Addr} (h : excB K D = true) : ExcC K D := by
  obtain ⟨h1, h⟩ := He.ba h
  obtain ⟨h2, h⟩ := He.ba h
  obtain ⟨h3, h⟩ := He.ba h
  obtain ⟨h4, h⟩ := He.ba h
  obtain ⟨h5, h⟩ := He.ba h
  obtain ⟨h6, h⟩ := He.ba h
  obtain ⟨h7, h8⟩ := He.ba h
  exact ⟨He.eqO_ok h1, He.eqO_ok h2, of_decide_eq_true h3, h4, He.eqO_ok h5, He.eqO_ok h6, of_decide_eq_true h7, of_decide_eq_true h8⟩
/-- what is told of the error classes -/
structure ErrK (K : PySem.W.Frag) : Prop where
  exc : ∀ x ∈ errNames, ExcC K (He.ga K x)
  exm : ∀ x ∈ errNames, PySem.W.exmOne K (.ref (He.ga K x)) (.ref (He.ga K "HallError")) = some true
  kit : ∀ x ∈ errNames, ∀ y ∈ errNames, PySem.W.kitOne K (.ref (He.ga K x)) (.ref (He.ga K y)) = some (decide (x = y))
  kitH : ∀ x ∈ errNames, PySem.W.kitOne K (.ref (He.ga K x)) (.ref (He.ga K "HallError")) = some true
  kitV : ∀ x ∈ errNames, PySem.W.kitOne K (.ref (He.ga K x)) (.type "ValueError") = some true
def errB (K : PySem.W.Frag) : Bool := errNames.all fun x => excB K (He.ga K x) && (decide (PySem.W.exmOne K (.ref (He.ga K x)) (.ref (He.ga K "HallError")) = some true) &&
  ((errNames.all fun y => decide (PySem.W.kitOne K (.ref (He.ga K x)) (.ref (He.ga K y)) = some (decide (x = y)))) && (decide (PySem.W.kitOne K (.ref (He.ga K x)) (.ref (He.ga K "HallError")) = some true) && decide (PySem.W.kitOne K (.ref (He.ga K x)) (.type "ValueError") = some true))))
theorem errB_ok {K : PySem.W.Frag} (h : errB K = true) : ErrK K := by
  have h1 := List.all_eq_true.mp h
  refine ⟨fun x hx => excB_ok (He.ba (h1 x hx)).1, fun x hx => of_decide_eq_true (He.ba (He.ba (h1 x hx)).2).1, fun x hx y hy => ?_, fun x hx => ?_, fun x hx => ?_⟩
  · exact of_decide_eq_true (List.all_eq_true.mp (He.ba (He.ba (He.ba (h1 x hx)).2).2).1 y hy)
  · exact of_decide_eq_true (He.ba (He.ba (He.ba (He.ba (h1 x hx)).2).2).2).1
  · exact of_decide_eq_true (He.ba (He.ba (He.ba (He.ba (h1 x hx)).2).2).2).2
end U

set_option Elab.async false
set_option linter.all false
set_option maxRecDepth 100000
set_option maxHeartbeats 4000000
/-! Helpers for the readings: what stays, comprehensions whose element leaves the heap alone, texts, types. -/
namespace U
open PySem PySem.Spec PyProof.Rows L2

/-! ### what stays -/
/-- all that was tracked stays, but what stands at l -/
structure Keep (l : List Addr) (H H' : Hp) : Prop where
  k : ∀ b o, H b = some o → b ∉ l → H' b = some o
theorem Keep.refl {l : List Addr} {H : Hp} : Keep l H H := ⟨fun _ _ h _ => h⟩
theorem Keep.trans {l : List Addr} {H H1 H2 : Hp} (a : Keep l H H1) (b : Keep l H1 H2) : Keep l H H2 := ⟨fun c o h n => b.k c o (a.k c o h n) n⟩
theorem Keep.same {l : List Addr} {H H1 : Hp} (a : Same H H1) : Keep l H H1 := ⟨fun c o h _ => a c o h⟩
theorem Keep.mono {l l' : List Addr} {H H1 : Hp} (a : Keep l H H1) (h : ∀ x, x ∈ l → x ∈ l') : Keep l' H H1 := ⟨fun c o e n => a.k c o e fun z => n (h c z)⟩
theorem Keep.put {l : List Addr} {H H1 : Hp} {p : Addr} {o : HO} (a : Keep l H H1) (h : p ∈ l) : Keep l H (upd H1 p o) := ⟨fun c u e n => by
  have z : c ≠ p := fun z => n (by rw [z]; exact h)
  rw [upd_ne z]
  exact a.k c u e n⟩
theorem Keep.new {l : List Addr} {H H1 : Hp} {p : Addr} {o : HO} (a : Keep l H H1) (h : H p = none) : Keep l H (upd H1 p o) := ⟨fun c u e n => by
  rw [upd_ne (ne_of_none e h)]
  exact a.k c u e n⟩
theorem Keep.free {l : List Addr} {H H1 : Hp} {p : Addr} (a : Keep l H H1) (n : p ∉ l) (h : H1 p = none) : H p = none := by
  cases e : H p with
  | none => rfl
  | some o =>
    rw [a.k p o e n] at h
    cases h
/-- what wasn't there ahead may be changed: all as before -/
theorem Keep.drop {p : Addr} {H0 H H1 : Hp} (a : Keep [p] H H1) (s : Same H0 H) (n : H0 p = none) : Same H0 H1 := fun c o e => a.k c o (s c o e) (by
  intro z
  rw [List.mem_singleton.mp z, n] at e
  cases e)
theorem Keep.seq {K : PySem.W.Frag} {l : List Addr} {H H1 : Hp} {a : Addr} {xs : List V} (k : Keep l H H1) (n : a ∉ l) (h : SqL K H a xs) : SqL K H1 a xs := by
  rcases h with (h | ⟨o, h⟩) | h
  · exact .inl (.inl (k.k _ _ h n))
  · exact .inl (.inr ⟨o, k.k _ _ h n⟩)
  · exact .inr h
theorem same_new {H : Hp} {p : Addr} {o : HO} (h : H p = none) : Same H (upd H p o) := fun c u e => by
  rw [upd_ne (ne_of_none e h)]
  exact e
theorem Same.new {H H1 : Hp} {p : Addr} {o : HO} (a : Same H H1) (h : H1 p = none) : Same H (upd H1 p o) := a.trans (same_new h)
theorem _root_.L2.Same.new {H H1 : Hp} {p : Addr} {o : HO} (a : Same H H1) (h : H1 p = none) : Same H (upd H1 p o) := a.trans (same_new h)
/-- an object that H doesn't know may change -/
theorem Same.mut {H H1 : Hp} {p : Addr} {o : HO} (a : Same H H1) (h : H p = none) : Same H (upd H1 p o) := fun c u e => by
  rw [upd_ne (ne_of_none e h)]
  exact a c u e
theorem seq_upd {K : PySem.W.Frag} {H : Hp} {a p : Addr} {xs : List V} {o : HO} (h : SqL K H a xs) (n : H p = none) : SqL K (upd H p o) a xs := (same_new n).seq h
theorem Same.seqT {K : PySem.W.Frag} {H H' : Hp} {a : Addr} {xs : List V} (e : Same H H') (h : SqT K H a xs) : SqT K H' a xs := by
  rcases h with (h | ⟨o, h⟩) | h
  · exact .inl (.inl (e _ _ h))
  · exact .inl (.inr ⟨o, e _ _ h⟩)
  · exact .inr h

/-! ### slots -/
theorem wipe1 {σ : L2.St} {j : Nat} {v : Option V} : wipe ((wipe σ [j]).set j v) [j] = wipe σ [j] := by
  show ((σ.set j none).set j v).set j none = σ.set j none
  rw [List.set_set, List.set_set]

/-! ### comprehensions whose test and element leave the heap alone -/
section
variable {K : PySem.W.Frag} {tt : TT} {te : TE} {σ : L2.St} {H1 : Hp} {D : Addr} {Q : Hp → Prop} {j : Nat}
/-- over a text -/
theorem lc_str {x : Str} {g : TG} {vs : List Nat} (Pv : Nat → Hp → Prop) (h0 : Pv 0 (upd H1 D (.lst [])))
    (hs : ∀ i c H, x.cps[i]? = some c → Pv i H → g (.str ⟨#[c]⟩) (wipe σ vs) H fun σ2 H2 => wipe σ2 vs = wipe σ vs ∧ tt σ2 H2 fun b H3 =>
      if b = true then te σ2 H3 fun y H4 => ∃ acc, H4 D = some (.lst acc) ∧ acc.length < sizeLine ∧ Pv (i + 1) (upd H4 D (.lst (acc ++ [y]))) else Pv (i + 1) H3) (hd : ∀ H, Pv x.cps.size H → Q H) :
    ∃ W : Nat → Nat → Hp → Prop, (∃ m, W 0 m (upd H1 D (.lst []))) ∧ ∀ i m H, W i m H →
      ((Its x).stop i H ∧ Q H) ∨ ((Its x).go i H ∧ ∃ Nx : Hp → Prop, (∀ H', Nx H' → ∃ m', m' < m ∧ W (i + 1) m' H') ∧ ∀ y H', (Its x).yld i H y H' → g y (wipe σ vs) H' fun σ2 H2 => wipe σ2 vs = wipe σ vs ∧ tt σ2 H2 fun b H3 =>
        if b = true then te σ2 H3 fun y H4 => ∃ acc, H4 D = some (.lst acc) ∧ acc.length < sizeLine ∧ Nx (upd H4 D (.lst (acc ++ [y]))) else Nx H3) := by
  refine ⟨fun i m H => m = x.cps.size - i ∧ i ≤ x.cps.size ∧ Pv i H, ⟨x.cps.size, by simp, Nat.zero_le _, h0⟩, ?_⟩
  rintro i m H ⟨rfl, hi, p⟩
  by_cases hlt : i < x.cps.size
  · refine .inr ⟨hlt, Pv (i + 1), fun H' p' => ⟨x.cps.size - (i + 1), by omega, rfl, hlt, p'⟩, fun y H' z => ?_⟩
    obtain ⟨e, c, hc, rfl⟩ := z
    subst e
    exact hs i c _ hc p
  · have e : i = x.cps.size := by omega
    subst e
    exact .inl ⟨Nat.le_refl _, hd H p⟩
theorem take_snoc {α : Type} {l : List α} {i : Nat} {x : α} (h : l[i]? = some x) : l.take (i + 1) = l.take i ++ [x] := by
  rw [List.take_add_one, h]
  rfl
theorem lcs_fm {x : Str} (p : Nat → Bool) (f : Nat → V) (hx : x.cps.size ≤ 1000000)
    (ht : ∀ c acc (R : Bool → Hp → Prop), c ∈ x.cps.toList → R (p c) (upd H1 D (.lst acc)) → tt ((wipe σ [j]).set j (some (.str ⟨#[c]⟩))) (upd H1 D (.lst acc)) R)
    (he : ∀ c acc (R : VK), c ∈ x.cps.toList → p c = true → R (f c) (upd H1 D (.lst acc)) → te ((wipe σ [j]).set j (some (.str ⟨#[c]⟩))) (upd H1 D (.lst acc)) R)
    (hd : Q (upd H1 D (.lst ((x.cps.toList.filter p).map f)))) :
    ∃ W : Nat → Nat → Hp → Prop, (∃ m, W 0 m (upd H1 D (.lst []))) ∧ ∀ i m H, W i m H →
      ((Its x).stop i H ∧ Q H) ∨ ((Its x).go i H ∧ ∃ Nx : Hp → Prop, (∀ H', Nx H' → ∃ m', m' < m ∧ W (i + 1) m' H') ∧ ∀ y H', (Its x).yld i H y H' → gName j y (wipe σ [j]) H' fun σ2 H2 => wipe σ2 [j] = wipe σ [j] ∧ tt σ2 H2 fun b H3 =>
        if b = true then te σ2 H3 fun y H4 => ∃ acc, H4 D = some (.lst acc) ∧ acc.length < sizeLine ∧ Nx (upd H4 D (.lst (acc ++ [y]))) else Nx H3) := by
  refine lc_str (g := gName j) (vs := [j]) (fun i H => H = upd H1 D (.lst (((x.cps.toList.take i).filter p).map f))) (by simp) (fun i c H hc e => ?_) (fun H e => ?_)
  · subst e
    have hc' : x.cps.toList[i]? = some c := by rw [Array.getElem?_toList]; exact hc
    have hm : c ∈ x.cps.toList := List.mem_of_getElem? hc'
    refine ⟨wipe1, ht c _ _ hm ?_⟩
    have hlen : (((x.cps.toList.take i).filter p).map f).length < sizeLine := by
      rw [List.length_map, sizeLine_eq]
      have h1 := List.length_filter_le p (x.cps.toList.take i)
      rw [List.length_take] at h1
      have h2 : i < x.cps.toList.length := (List.getElem?_eq_some_iff.mp hc').1
      rw [Array.length_toList] at h2
      omega
    by_cases hp : p c = true
    · rw [hp]
      refine iteT (he c _ _ hm hp ⟨_, upd_same, hlen, ?_⟩)
      rw [upd_upd, take_snoc hc', List.filter_append, List.map_append]
      simp [hp]
    · have hp' : p c = false := by simpa using hp
      rw [hp']
      refine iteF ?_
      rw [take_snoc hc', List.filter_append, List.map_append]
      simp [hp']
  · rw [e, ← Array.length_toList, List.take_length]
    exact hd
/-- over a list -/
theorem lcl_fm {a : Addr} {xs : List V} (p : V → Bool) (f : V → V) (hs : SqL K H1 a xs) (hD : H1 D = none) (hx : xs.length ≤ 1000000)
    (ht : ∀ v acc (R : Bool → Hp → Prop), v ∈ xs → R (p v) (upd H1 D (.lst acc)) → tt ((wipe σ [j]).set j (some v)) (upd H1 D (.lst acc)) R)
    (he : ∀ v acc (R : VK), v ∈ xs → p v = true → R (f v) (upd H1 D (.lst acc)) → te ((wipe σ [j]).set j (some v)) (upd H1 D (.lst acc)) R)
    (hd : Q (upd H1 D (.lst ((xs.filter p).map f)))) :
    ∃ W : Nat → Nat → Hp → Prop, (∃ m, W 0 m (upd H1 D (.lst []))) ∧ ∀ i m H, W i m H →
      ((Itl K a).stop i H ∧ Q H) ∨ ((Itl K a).go i H ∧ ∃ Nx : Hp → Prop, (∀ H', Nx H' → ∃ m', m' < m ∧ W (i + 1) m' H') ∧ ∀ y H', (Itl K a).yld i H y H' → gName j y (wipe σ [j]) H' fun σ2 H2 => wipe σ2 [j] = wipe σ [j] ∧ tt σ2 H2 fun b H3 =>
        if b = true then te σ2 H3 fun y H4 => ∃ acc, H4 D = some (.lst acc) ∧ acc.length < sizeLine ∧ Nx (upd H4 D (.lst (acc ++ [y]))) else Nx H3) := by
  refine lc_list (g := gName j) (vs := [j]) (xs := xs) (fun i H => H = upd H1 D (.lst (((xs.take i).filter p).map f))) (by simp) (fun i H _ e => by rw [e]; exact seq_upd hs hD) (fun i c H hc e => ?_) (fun H e => ?_)
  · subst e
    have hm : c ∈ xs := List.mem_of_getElem? hc
    refine ⟨wipe1, ht c _ _ hm ?_⟩
    have hlen : (((xs.take i).filter p).map f).length < sizeLine := by
      rw [List.length_map, sizeLine_eq]
      have h1 := List.length_filter_le p (xs.take i)
      rw [List.length_take] at h1
      have h2 : i < xs.length := (List.getElem?_eq_some_iff.mp hc).1
      omega
    by_cases hp : p c = true
    · rw [hp]
      refine iteT (he c _ _ hm hp ⟨_, upd_same, hlen, ?_⟩)
      rw [upd_upd, take_snoc hc, List.filter_append, List.map_append]
      simp [hp]
    · have hp' : p c = false := by simpa using hp
      rw [hp']
      refine iteF ?_
      rw [take_snoc hc, List.filter_append, List.map_append]
      simp [hp']
  · rw [e, List.take_length]
    exact hd
theorem lcs_m {x : Str} (f : Nat → V) (hx : x.cps.size ≤ 1000000)
    (he : ∀ c acc (R : VK), c ∈ x.cps.toList → R (f c) (upd H1 D (.lst acc)) → te ((wipe σ [j]).set j (some (.str ⟨#[c]⟩))) (upd H1 D (.lst acc)) R)
    (hd : Q (upd H1 D (.lst (x.cps.toList.map f)))) :
    ∃ W : Nat → Nat → Hp → Prop, (∃ m, W 0 m (upd H1 D (.lst []))) ∧ ∀ i m H, W i m H →
      ((Its x).stop i H ∧ Q H) ∨ ((Its x).go i H ∧ ∃ Nx : Hp → Prop, (∀ H', Nx H' → ∃ m', m' < m ∧ W (i + 1) m' H') ∧ ∀ y H', (Its x).yld i H y H' → gName j y (wipe σ [j]) H' fun σ2 H2 => wipe σ2 [j] = wipe σ [j] ∧ tYes σ2 H2 fun b H3 =>
        if b = true then te σ2 H3 fun y H4 => ∃ acc, H4 D = some (.lst acc) ∧ acc.length < sizeLine ∧ Nx (upd H4 D (.lst (acc ++ [y]))) else Nx H3) := by
  refine lcs_fm (fun _ => true) f hx (fun c acc R _ r => r) (fun c acc R hc _ r => he c acc R hc r) ?_
  rw [List.filter_eq_self.mpr (fun _ _ => rfl)]
  exact hd
theorem lcl_m {a : Addr} {xs : List V} (f : V → V) (hs : SqL K H1 a xs) (hD : H1 D = none) (hx : xs.length ≤ 1000000)
    (he : ∀ v acc (R : VK), v ∈ xs → R (f v) (upd H1 D (.lst acc)) → te ((wipe σ [j]).set j (some v)) (upd H1 D (.lst acc)) R)
    (hd : Q (upd H1 D (.lst (xs.map f)))) :
    ∃ W : Nat → Nat → Hp → Prop, (∃ m, W 0 m (upd H1 D (.lst []))) ∧ ∀ i m H, W i m H →
      ((Itl K a).stop i H ∧ Q H) ∨ ((Itl K a).go i H ∧ ∃ Nx : Hp → Prop, (∀ H', Nx H' → ∃ m', m' < m ∧ W (i + 1) m' H') ∧ ∀ y H', (Itl K a).yld i H y H' → gName j y (wipe σ [j]) H' fun σ2 H2 => wipe σ2 [j] = wipe σ [j] ∧ tYes σ2 H2 fun b H3 =>
        if b = true then te σ2 H3 fun y H4 => ∃ acc, H4 D = some (.lst acc) ∧ acc.length < sizeLine ∧ Nx (upd H4 D (.lst (acc ++ [y]))) else Nx H3) := by
  refine lcl_fm (fun _ => true) f hs hD hx (fun c acc R _ r => r) (fun c acc R hc _ r => he c acc R hc r) ?_
  rw [List.filter_eq_self.mpr (fun _ _ => rfl)]
  exact hd
end

/-! ### data -/
theorem dpAll_ints {K : PySem.W.Frag} {H : Hp} : ∀ ns : List Int, DpAll K H (ns.map V.int) (ns.map PyData.int)
  | [] => .nil
  | n :: r => .cons (.int n) (dpAll_ints r)
theorem dpAll_strs {K : PySem.W.Frag} {H : Hp} : ∀ ns : List Str, DpAll K H (ns.map V.str) (ns.map PyData.str)
  | [] => .nil
  | n :: r => .cons (.str n) (dpAll_strs r)

theorem strOk_of {z : Str} (h : ∀ c ∈ z.cps.toList, c < 1114112) : PyData.strOk z = true := by
  unfold PyData.strOk
  rw [← Array.all_toList]
  exact List.all_eq_true.mpr fun c hc => decide_eq_true (h c hc)
theorem canLay_strs : ∀ {l : List Str}, (∀ z ∈ l, ∀ c ∈ z.cps.toList, c < 1114112) → PyData.canLayAll0 (l.map PyData.str) = true
  | [], _ => rfl
  | z :: r, h => by
    show (PyData.strOk z && PyData.canLayAll0 (r.map PyData.str)) = true
    rw [strOk_of (h z (List.mem_cons_self ..)), canLay_strs fun y hy => h y (List.mem_cons_of_mem _ hy)]
    rfl
theorem depth_strs : ∀ l : List Str, PyData.depthAll (l.map PyData.str) = 0
  | [] => by simp [PyData.depthAll]
  | z :: r => by
    rw [List.map_cons, PyData.depthAll, depth_strs r]
    simp [PyData.depth]
theorem shaped_strs {l : List Str} (h : ∀ z ∈ l, ∀ c ∈ z.cps.toList, c < 1114112) : SeqAt.shaped (.list (l.map PyData.str)) = true := by
  unfold SeqAt.shaped
  have e1 : PyData.canLay0 (.list (l.map PyData.str)) = true := canLay_strs h
  have e2 : PyData.depth (.list (l.map PyData.str)) = 1 := by rw [PyData.depth, depth_strs]
  rw [e1, e2]
  rfl
theorem canLay_ints : ∀ l : List Int, PyData.canLayAll0 (l.map PyData.int) = true
  | [] => rfl
  | z :: r => by
    show (true && PyData.canLayAll0 (r.map PyData.int)) = true
    rw [canLay_ints r]
    rfl
theorem depth_ints : ∀ l : List Int, PyData.depthAll (l.map PyData.int) = 0
  | [] => by simp [PyData.depthAll]
  | z :: r => by
    rw [List.map_cons, PyData.depthAll, depth_ints r]
    simp [PyData.depth]
theorem shaped_ints (l : List Int) : SeqAt.shaped (.list (l.map PyData.int)) = true := by
  unfold SeqAt.shaped
  have e1 : PyData.canLay0 (.list (l.map PyData.int)) = true := canLay_ints l
  have e2 : PyData.depth (.list (l.map PyData.int)) = 1 := by rw [PyData.depth, depth_ints]
  rw [e1, e2]
  rfl
theorem eqv_nil (xs : List PyData) : PyData.eqv (.list xs) (.list []) = xs.isEmpty := by
  rw [PyData.eqv]
  cases xs with
  | nil => simp [PyData.eqvAll]
  | cons x r => simp [PyData.eqvAll]

/-! ### the letters -/
abbrev abc : Str := "abcdefghijklmnopqrstuvwxyz"
theorem abc_len : abc.cps.toList.length = 26 := by decide +kernel
theorem abc_size : abc.length = 26 := by decide +kernel

theorem abc_at {d : Int} (h0 : 0 ≤ d) (h1 : d < 26) : ∃ c, atI abc.cps.toList d = some c ∧ c ∈ abc.cps.toList := by
  obtain ⟨j, rfl⟩ : ∃ j : Nat, d = (j : Int) := ⟨d.toNat, by omega⟩
  have hj : j < abc.cps.toList.length := by rw [abc_len]; omega
  exact ⟨abc.cps.toList[j], atI_nat (List.getElem?_eq_getElem hj), List.getElem_mem hj⟩
/-- an item of a written text at a place within -/
theorem str_at {z : Str} {n : Nat} (hn : z.cps.toList.length = n) {d : Int} (h0 : 0 ≤ d) (h1 : d < n) : ∃ c, atI z.cps.toList d = some c ∧ c ∈ z.cps.toList := by
  obtain ⟨j, rfl⟩ : ∃ j : Nat, d = (j : Int) := ⟨d.toNat, by omega⟩
  have hj : j < z.cps.toList.length := by omega
  exact ⟨z.cps.toList[j], atI_nat (List.getElem?_eq_getElem hj), List.getElem_mem hj⟩
theorem joinL_one : ∀ cs : List Nat, TL.joinL [] (cs.map fun c => [c]) = cs
  | [] => rfl
  | [c] => rfl
  | c :: d :: r => by
    show [c] ++ ([] ++ TL.joinL [] ((d :: r).map fun c => [c])) = c :: d :: r
    rw [joinL_one (d :: r)]
    rfl
/-- "".join of single signs -/
theorem join_signs (cs : List Nat) : Txt.join "" (cs.map fun c => (⟨#[c]⟩ : Str)) = SX.S cs := by
  have e := SX.join_S [] (cs.map fun c => [c])
  rw [joinL_one, List.map_map] at e
  exact e
theorem signs_len : ∀ cs : List Nat, ((cs.map fun c => (⟨#[c]⟩ : Str)).map (·.length)).sum = cs.length
  | [] => rfl
  | c :: r => by
    rw [List.map_cons, List.map_cons, List.sum_cons, signs_len r, List.length_cons]
    show 1 + r.length = r.length + 1
    omega

/-! ### names -/
def isNmS (z : Str) : Bool := decide (1 ≤ z.length) && decide (z.length ≤ 8) && z.cps.toList.all fun c => decide (c ∈ abc.cps.toList)
def isNm : V → Bool
  | .str z => isNmS z
  | _ => false

/-! ### a value whose type is known -/
structure TxOk (z : Str) : Prop where
  len : z.length ≤ 100000
  ok : ∀ c ∈ z.cps.toList, c < 1114112
def isStrV : V → Bool
  | .str _ => true
  | _ => false
/-- a text in bounds, or something of a built-in type that is no text -/
def Kn (K : PySem.W.Frag) (H : Hp) (v : V) : Prop := (∃ z, v = .str z ∧ TxOk z) ∨ (isStrV v = false ∧ ∃ T : String, TyX K H v (.type T) ∧ T ∈ ["int", "bool", "NoneType", "list", "tuple", "dict"])
theorem _root_.L2.TyX.same {K : PySem.W.Frag} {H H' : Hp} {v : V} {t : Value} (s : Same H H') (h : TyX K H v t) : TyX K H' v t := by
  cases h with
  | base h =>
    cases h with
    | non => exact .base .non
    | bl x => exact .base (.bl x)
    | int i => exact .base (.int i)
    | str x => exact .base (.str x)
    | flt x => exact .base (.flt x)
    | lst e => exact .base (.lst (s _ _ e))
    | frz e => exact .base (.frz (s _ _ e))
    | tup e => exact .base (.tup (s _ _ e))
    | dK e => exact .base (.dK (s _ _ e))
    | dT e => exact .base (.dT (s _ _ e))
    | ins e cl ha hn htk hm => exact .base (.ins (s _ _ e) cl ha hn htk hm)
  | byt b => exact .byt b
  | set e => exact .set (s _ _ e)
  | kList e c => exact .kList e c
  | kTuple e c => exact .kTuple e c
  | kDict e c => exact .kDict e c
  | fTuple e => exact .fTuple (s _ _ e)
  | fDict e => exact .fDict (s _ _ e)
theorem Kn.same {K : PySem.W.Frag} {H H' : Hp} {v : V} (s : Same H H') (h : Kn K H v) : Kn K H' v := by
  rcases h with h | ⟨h1, T, h2, h3⟩
  · exact .inl h
  · exact .inr ⟨h1, T, TyX.same s h2, h3⟩
theorem kit_str {T : String} (h : T ∈ ["int", "bool", "NoneType", "list", "tuple", "dict"]) : kitB T "str" = some false := by
  simp only [List.mem_cons, List.not_mem_nil, or_false] at h
  rcases h with rfl | rfl | rfl | rfl | rfl | rfl <;> decide +kernel
theorem kit_str_str : kitB "str" "str" = some true := by decide +kernel
section
variable {K : PySem.W.Frag} {H : Hp}
theorem Kn.str {z : Str} (h : TxOk z) : Kn K H (.str z) := .inl ⟨z, rfl, h⟩
theorem Kn.int (i : Int) : Kn K H (.int i) := .inr ⟨rfl, "int", .base (.int i), by simp⟩
theorem Kn.bl (b : Bool) : Kn K H (.bl b) := .inr ⟨rfl, "bool", .base (.bl b), by simp⟩
theorem Kn.non : Kn K H .non := .inr ⟨rfl, "NoneType", .base .non, by simp⟩
theorem Kn.lst {a : Addr} {xs : List V} (h : H a = some (.lst xs)) : Kn K H (.ref a) := .inr ⟨rfl, "list", .base (.lst h), by simp⟩
theorem Kn.tup {a : Addr} {xs : List V} (h : H a = some (.tup xs)) : Kn K H (.ref a) := .inr ⟨rfl, "tuple", .base (.tup h), by simp⟩
theorem Kn.dct {a : Addr} {kvs : List (Key × V)} (h : H a = some (.dK kvs)) : Kn K H (.ref a) := .inr ⟨rfl, "dict", .base (.dK h), by simp⟩
end
/-- isinstance(v, str): the type and the answer -/
theorem Kn.isS (K : PySem.W.Frag) {H : Hp} {v : V} (kn : Kn K H v) : ∃ T : String, TyX K H v (.type T) ∧ PySem.W.kitOne K (.type T) (.type "str") = some (isStrV v) := by
  rcases kn with ⟨z, rfl, h⟩ | ⟨h1, T, ty, ht⟩
  · exact ⟨_, .base (.str z), kit_ty kit_str_str⟩
  · exact ⟨T, ty, by rw [h1]; exact kit_ty (kit_str ht)⟩
theorem Kn.tx {K : PySem.W.Frag} {H : Hp} {z : Str} (kn : Kn K H (.str z)) : TxOk z := by
  rcases kn with ⟨z', e, h⟩ | ⟨h1, _⟩
  · cases e
    exact h
  · cases h1
theorem isNm_notStr {v : V} (h : isStrV v = false) : isNm v = false := by
  cases v with
  | str z => cases h
  | _ => rfl
theorem isStrV_str {v : V} (h : isStrV v = true) : ∃ z, v = .str z := by
  cases v with
  | str z => exact ⟨z, rfl⟩
  | _ => cases h
theorem isNm_str {v : V} (h : isNm v = true) : ∃ z, v = .str z := by
  cases v with
  | str z => exact ⟨z, rfl⟩
  | _ => cases h
theorem TxOk.cut {z : Str} (h : TxOk z) (lo hi : Option Int) : TxOk (cutS z lo hi) := ⟨Nat.le_trans (cutS_length z lo hi) h.1, fun c hc => h.2 c (List.mem_of_mem_drop (List.mem_of_mem_take (by simpa [cutS] using hc)))⟩
theorem str_cat_toList (a b : Str) : (a ++ b).cps.toList = a.cps.toList ++ b.cps.toList := TL.tl_append a b
theorem str_cat_len (a b : Str) : (a ++ b).length = a.length + b.length := by
  have e := congrArg List.length (str_cat_toList a b)
  rw [List.length_append] at e
  simpa [Str.length] using e
theorem TxOk.cat {a b : Str} {n m : Nat} (ha : TxOk a) (hb : TxOk b) (la : a.length ≤ n) (lb : b.length ≤ m) (h : n + m ≤ 100000) : TxOk (a ++ b) := ⟨by rw [str_cat_len]; omega, fun c hc => by
  rw [str_cat_toList] at hc
  rcases List.mem_append.mp hc with hc | hc
  · exact ha.2 c hc
  · exact hb.2 c hc⟩
theorem one_ok {c : Nat} (h : c < 1114112) : TxOk ⟨#[c]⟩ := ⟨(by show 1 ≤ 100000; decide), fun d hd => by
  have e : d = c := by simpa using hd
  rw [e]
  exact h⟩
theorem nil_ok : TxOk "" := ⟨Nat.zero_le _, fun c hc => by
  have e0 : ("" : Str).cps.toList = [] := by decide +kernel
  rw [e0] at hc
  cases hc⟩

/-! ### errors, by their names -/
theorem clsv_errs (K : PySem.W.Frag) : ∀ ys : List Str, Paired ClsV (ys.map fun y => V.ref (He.ga K y)) (ys.map fun y => Value.ref (He.ga K y))
  | [] => .nil
  | y :: r => .cons (.own _) (clsv_errs K r)
theorem kitAny_errs {K : PySem.W.Frag} (EK : ErrK K) {x : Str} (hx : x ∈ errNames) : ∀ ys : List Str, (∀ y ∈ ys, y ∈ errNames) → PySem.W.kitAny K (.ref (He.ga K x)) (ys.map fun y => Value.ref (He.ga K y)) = some (ys.any fun y => decide (x = y))
  | [], _ => rfl
  | y :: r, h => by
    have ih := kitAny_errs EK hx r fun z hz => h z (List.mem_cons_of_mem _ hz)
    have h1 := EK.kit x hx y (h y (List.mem_cons_self ..))
    refine kitAny_cons (b := decide (x = y)) h1 (fun e => ?_) (fun e => ?_)
    · show PySem.W.kitAny K (.ref (He.ga K x)) (r.map fun y => Value.ref (He.ga K y)) = some (decide (x = y) || r.any fun y => decide (x = y))
      rw [ih, e]
      rfl
    · show (decide (x = y) || r.any fun y => decide (x = y)) = true
      rw [e]
      rfl

/-! ### all but one object -/
def off (p : Addr) (H : Hp) : Hp := fun b => if b = p then none else H b
theorem off_at {p b : Addr} {H : Hp} {o : HO} (h : H b = some o) (n : b ≠ p) : off p H b = some o := by
  unfold off
  rw [if_neg n]
  exact h
theorem off_same {p : Addr} {H : Hp} : Same (off p H) H := fun b o h => by
  unfold off at h
  split at h
  · cases h
  · exact h
theorem Keep.off {p : Addr} {H H' : Hp} (k : Keep [p] H H') : Same (off p H) (U.off p H') := fun b o h => by
  have n : b ≠ p := fun e => by
    unfold U.off at h
    rw [if_pos e] at h
    cases h
  exact off_at (k.k b o (off_same _ _ h) (by simp [n])) n
theorem off_of_same {p : Addr} {H H' : Hp} (s : Same H H') : Same (off p H) (off p H') := (Keep.same s).off

/-! ### data in the heap -/
mutual
theorem Dp.same {K : PySem.W.Frag} {H H' : Hp} (s : Same H H') : ∀ {v : V} {d : PyData}, Dp K H v d → Dp K H' v d
  | _, _, .non => .non
  | _, _, .bl b => .bl b
  | _, _, .int i => .int i
  | _, _, .str x => .str x
  | _, _, .lst h hs => .lst (s.seq h) (DpAll.same s hs)
  | _, _, .tup h hs => .tup (Same.seqT s h) (DpAll.same s hs)
theorem DpAll.same {K : PySem.W.Frag} {H H' : Hp} (s : Same H H') : ∀ {vs : List V} {ds : List PyData}, DpAll K H vs ds → DpAll K H' vs ds
  | _, _, .nil => .nil
  | _, _, .cons h hs => .cons (Dp.same s h) (DpAll.same s hs)
end
def tyD : PyData → String
  | .none => "NoneType"
  | .bool _ => "bool"
  | .int _ => "int"
  | .str _ => "str"
  | .list _ => "list"
  | .tuple _ => "tuple"
  | .dict _ => "dict"
theorem _root_.L2.Dp.ty {K : PySem.W.Frag} {H : Hp} {v : V} {d : PyData} (h : Dp K H v d) : TyX K H v (.type (tyD d)) := by
  cases h with
  | non => exact .base .non
  | bl b => exact .base (.bl b)
  | int i => exact .base (.int i)
  | str x => exact .base (.str x)
  | lst h _ =>
    rcases h with (h | ⟨o, h⟩) | h
    · exact .base (.lst h)
    · exact .base (.frz h)
    · obtain ⟨o, its, n, hk, hc, _⟩ := h
      exact .kList hk hc
  | tup h _ =>
    rcases h with (h | ⟨o, h⟩) | h
    · exact .base (.tup h)
    · exact .fTuple h
    · obtain ⟨o, its, n, hk, hc, _⟩ := h
      exact .kTuple hk hc
structure Dt (K : PySem.W.Frag) (H : Hp) (v : V) (d : PyData) : Prop where
  dp : Dp K H v d
  sh : SeqAt.shaped d = true
theorem Dt.same {K : PySem.W.Frag} {H H' : Hp} {v : V} {d : PyData} (s : Same H H') (h : Dt K H v d) : Dt K H' v d := ⟨Dp.same s h.dp, h.sh⟩
theorem Dt.of_off {K : PySem.W.Frag} {p : Addr} {H : Hp} {v : V} {d : PyData} (h : Dt K (off p H) v d) : Dt K H v d := h.same off_same
theorem Kn.of_off {K : PySem.W.Frag} {p : Addr} {H : Hp} {v : V} (h : Kn K (off p H) v) : Kn K H v := Kn.same off_same h
def noDict : PyData → Bool
  | .dict _ => false
  | _ => true
theorem _root_.L2.Dp.nd {K : PySem.W.Frag} {H : Hp} {v : V} {d : PyData} (h : Dp K H v d) : noDict d = true := by
  cases h <;> rfl
def isIntD : PyData → Bool
  | .int _ => true
  | .bool _ => true
  | _ => false
def isBoolD : PyData → Bool
  | .bool _ => true
  | _ => false
def isStrD : PyData → Bool
  | .str _ => true
  | _ => false
def isTupD : PyData → Bool
  | .tuple _ => true
  | _ => false
def tyNames : List String := ["NoneType", "bool", "int", "str", "list", "tuple", "dict"]
theorem tyD_mem (d : PyData) : tyD d ∈ tyNames := by
  cases d <;> simp [tyD, tyNames]
theorem kit7_int : ∀ T ∈ tyNames, kitB T "int" = some (T == "int" || T == "bool") := by decide +kernel
theorem kit7_bool : ∀ T ∈ tyNames, kitB T "bool" = some (T == "bool") := by decide +kernel
theorem kit7_str : ∀ T ∈ tyNames, kitB T "str" = some (T == "str") := by decide +kernel
theorem kit7_tup : ∀ T ∈ tyNames, kitB T "tuple" = some (T == "tuple") := by decide +kernel
theorem kit7_list : ∀ T ∈ tyNames, kitB T "list" = some (T == "list") := by decide +kernel
theorem kit7_dict : ∀ T ∈ tyNames, kitB T "dict" = some (T == "dict") := by decide +kernel
theorem kitD_int {d : PyData} (h : noDict d = true) : kitB (tyD d) "int" = some (isIntD d) := by
  rw [kit7_int _ (tyD_mem d)]
  cases d <;> rfl
theorem kitD_bool {d : PyData} (h : noDict d = true) : kitB (tyD d) "bool" = some (isBoolD d) := by
  rw [kit7_bool _ (tyD_mem d)]
  cases d <;> rfl
theorem kitD_str {d : PyData} (h : noDict d = true) : kitB (tyD d) "str" = some (isStrD d) := by
  rw [kit7_str _ (tyD_mem d)]
  cases d <;> rfl
theorem kitD_tup {d : PyData} (h : noDict d = true) : kitB (tyD d) "tuple" = some (isTupD d) := by
  rw [kit7_tup _ (tyD_mem d)]
  cases d <;> rfl

/-! ### menus: an item of a written list at a drawn place -/
theorem menu {xs : List V} {n : Nat} {d : Int} (P : V → Prop) (hn : xs.length = n) (h0 : 0 ≤ d) (h1 : d < n) (all : ∀ v ∈ xs, P v) : ∃ v, atI xs d = some v ∧ P v := by
  obtain ⟨j, rfl⟩ : ∃ j : Nat, d = (j : Int) := ⟨d.toNat, by omega⟩
  have hj : j < xs.length := by omega
  exact ⟨xs[j], atI_nat (List.getElem?_eq_getElem hj), all _ (List.getElem_mem hj)⟩
theorem Dt.int {K : PySem.W.Frag} {H : Hp} (i : Int) : Dt K H (.int i) (.int i) := ⟨.int i, rfl⟩
theorem Dt.bl {K : PySem.W.Frag} {H : Hp} (i : Bool) : Dt K H (.bl i) (.bool i) := ⟨.bl i, rfl⟩
theorem Dt.non {K : PySem.W.Frag} {H : Hp} : Dt K H .non .none := ⟨.non, rfl⟩
theorem Dt.str {K : PySem.W.Frag} {H : Hp} {z : Str} (h : TxOk z) : Dt K H (.str z) (.str z) := ⟨.str z, by
  unfold SeqAt.shaped
  have e : PyData.canLay0 (.str z) = true := strOk_of h.ok
  rw [e]
  rfl⟩
theorem shaped_parts {d : PyData} (h : SeqAt.shaped d = true) : d.canLay0 = true ∧ d.depth ≤ 64 := ⟨SeqAt.canLay_of_shaped h, SeqAt.depth_of_shaped h⟩
/-- data of some depth -/
structure Dd (n : Nat) (d : PyData) : Prop where
  lay : d.canLay0 = true
  dep : d.depth ≤ n
theorem Dd.sh {n : Nat} {d : PyData} (h : Dd n d) (hn : n ≤ 64) : SeqAt.shaped d = true := by
  unfold SeqAt.shaped
  rw [h.lay, decide_eq_true (Nat.le_trans h.dep hn)]
  rfl
theorem Dd.list {n : Nat} {ds : List PyData} (h : ∀ d ∈ ds, Dd n d) : Dd (n + 1) (.list ds) := by
  constructor
  · show PyData.canLayAll0 ds = true
    induction ds with
    | nil => rfl
    | cons x r ih =>
      show (x.canLay0 && PyData.canLayAll0 r) = true
      rw [(h x (List.mem_cons_self ..)).lay, ih fun y hy => h y (List.mem_cons_of_mem _ hy)]
      rfl
  · rw [PyData.depth]
    have e : PyData.depthAll ds ≤ n := by
      induction ds with
      | nil => simp [PyData.depthAll]
      | cons x r ih =>
        rw [PyData.depthAll]
        exact Nat.max_le.mpr ⟨(h x (List.mem_cons_self ..)).dep, ih fun y hy => h y (List.mem_cons_of_mem _ hy)⟩
    omega
theorem Dd.tuple {n : Nat} {ds : List PyData} (h : ∀ d ∈ ds, Dd n d) : Dd (n + 1) (.tuple ds) := by
  have q := Dd.list h
  exact ⟨q.lay, by have := q.dep; simp only [PyData.depth] at this ⊢; exact this⟩
theorem Dd.int (i : Int) : Dd 0 (.int i) := ⟨rfl, by simp [PyData.depth]⟩
theorem Dd.str {z : Str} (h : TxOk z) : Dd 0 (.str z) := ⟨strOk_of h.ok, by simp [PyData.depth]⟩
theorem Dd.none : Dd 0 .none := ⟨rfl, by simp [PyData.depth]⟩
theorem Dd.bool (b : Bool) : Dd 0 (.bool b) := ⟨rfl, by simp [PyData.depth]⟩
theorem Dd.mono {n m : Nat} {d : PyData} (h : Dd n d) (k : n ≤ m) : Dd m d := ⟨h.lay, Nat.le_trans h.dep k⟩
end U

set_option Elab.async false
set_option linter.all false
set_option maxRecDepth 100000
set_option maxHeartbeats 4000000
/-! Promises: is_name, People. -/
namespace G
open PySem PySem.Spec PyProof.Rows L2 U

/-- is_name(thing) -/
def sp_is_name (K : PySem.W.Frag) : Sp := fun vs H Q _ => match vs with
  | [v] => Kn K H v ∧ ∀ H', Same H H' → Q (.bl (isNm v)) H'
  | _ => False

/-! ### People -/
/-- the people of a house: names with their numbers, numbers with their names, how many numbers were given -/
structure Ppl where
  nm : List (Str × Int)
  nu : List (Int × Str)
  many : Nat
def nmD (l : List (Str × Int)) : List (Key × V) := l.map fun q => (Sum.inr q.1, V.int q.2)
def nuD (l : List (Int × Str)) : List (Key × V) := l.map fun q => (Sum.inl q.1, V.str q.2)
def fPpl (d1 d2 : Addr) (n : Int) : List (Str × V) := [("by_name", .ref d1), ("by_number", .ref d2), ("many", .int n)]
structure PplAt (K : PySem.W.Frag) (H : Hp) (p d1 d2 : Addr) (S : Ppl) : Prop where
  ob : ∃ dx, H p = some (.ins (He.ga K "People") dx (fPpl d1 d2 S.many))
  h1 : H d1 = some (.dK (nmD S.nm))
  h2 : H d2 = some (.dK (nuD S.nu))
  ne : d1 ≠ d2
  l1 : S.nm.length ≤ 1000
  l2 : S.nu.length ≤ 1000
  lt : ∀ q ∈ S.nu, q.1 ≤ S.many
def Ppl.look (S : Ppl) (x : Str) : Option Int := S.nm.lookup x
def Ppl.name (S : Ppl) (n : Int) : Option Str := S.nu.lookup n
/-- a name comes -/
def Ppl.come (S : Ppl) (x : Str) : Ppl := match S.look x with
  | some _ => S
  | none => ⟨S.nm ++ [(x, (S.many : Int) + 1)], S.nu ++ [((S.many : Int) + 1, x)], S.many + 1⟩
def Ppl.num (S : Ppl) (x : Str) : Int := match S.look x with
  | some n => n
  | none => (S.many : Int) + 1

def sp_People___init__ (K : PySem.W.Frag) : Sp := fun vs H Q _ => match vs with
  | [.ref p] => ∃ dx, H p = some (.ins (He.ga K "People") dx []) ∧ ∀ d1 d2 H', PplAt K H' p d1 d2 ⟨[], [], 0⟩ → H d1 = none → H d2 = none → Keep [p] H H' → Q .non H'
  | _ => False
def sp_People_known (K : PySem.W.Frag) : Sp := fun vs H Q _ => match vs with
  | [.ref p, v] => ∃ d1 d2 S, PplAt K H p d1 d2 S ∧ Kn K H v ∧ (isNm v = false → ∀ H', Same H H' → Q .non H') ∧ (∀ x, v = .str x → isNm v = true → ∀ H', Same H H' → Q (((S.look x).map V.int).getD .non) H')
  | _ => False
def sp_People_number_of (K : PySem.W.Frag) : Sp := fun vs H Q E => match vs with
  | [.ref p, v] => ∃ d1 d2 S, PplAt K H p d1 d2 S ∧ S.nm.length < 1000 ∧ S.nu.length < 1000 ∧ Kn K H v ∧ (isNm v = false → ∀ H', Same H H' → E (.ref (He.ga K "NoName")) none H') ∧
    (∀ x, v = .str x → isNm v = true → ∀ H', PplAt K H' p d1 d2 (S.come x) → Keep [p, d1, d2] H H' → Q (.int (S.num x)) H')
  | _ => False
def sp_People_cut_off (K : PySem.W.Frag) : Sp := fun vs H Q E => match vs with
  | [.ref p, v] => ∃ d1 d2 S, PplAt K H p d1 d2 S ∧ Kn K H v ∧ (isNm v = false → ∀ H', Same H H' → E (.ref (He.ga K "NoPerson")) none H') ∧
    (∀ x, v = .str x → isNm v = true → S.look x = none → ∀ H', Same H H' → E (.ref (He.ga K "NoPerson")) none H') ∧
    (∀ x n, v = .str x → isNm v = true → S.look x = some n → ∀ H', PplAt K H' p d1 d2 ⟨S.nm.filter (fun q => decide (q.1 ≠ x)), S.nu, S.many⟩ → Keep [d1] H H' → Q (.int n) H')
  | _ => False
def sp_People_name_of (K : PySem.W.Frag) : Sp := fun vs H Q _ => match vs with
  | [.ref p, .int n] => ∃ d1 d2 S, PplAt K H p d1 d2 S ∧ Q (((S.name n).map V.str).getD .non) H
  | _ => False
def sp_People_numbers (K : PySem.W.Frag) : Sp := fun vs H Q _ => match vs with
  | [.ref p] => ∃ d1 d2 S, PplAt K H p d1 d2 S ∧ S.nu.length < 64 ∧ ∀ (ys : List Int) H' a, ys.Perm (S.nu.map (·.1)) → ys.Pairwise (· ≤ ·) → H a = none → Same H H' → H' a = some (.lst (ys.map V.int)) → Q (.ref a) H'
  | _ => False
end G

set_option Elab.async false
set_option linter.all false
set_option maxRecDepth 100000
set_option maxHeartbeats 4000000

/-! Readings, printed by gen.py. -/
namespace G
open PySem PySem.Spec PyProof.Rows L2 U
abbrev N_is_name : List Str := ["thing", "letter"]
def t_is_name (K : PySem.W.Frag) : TS :=
  (tSeq (tIfS (tOr (tNot (tB (tCB (rIsi K) (tCons (tVar 0) (tCons (tC (.ty "str")) tNil))))) (tOr (tTest (tOp rEq (tVar 0) (tC (.str "")))) (tTest (tOp rGtI (tCB rLenStr (tCons (tVar 0) tNil)) (tC (.int 8)))))) (tRet (tC (.bl false))) tNext)
  (tRet (tCB (rAll K) (tCons (tLc (iStr (tVar 0)) (gName 1) tYes (tOp rInSg (tVar 1) (tC (.str "abcdefghijklmnopqrstuvwxyz"))) [1]) tNil))))
abbrev N_People_known : List Str := ["self", "name"]
def t_People_known (K : PySem.W.Frag) : TS :=
  (tSeq (tIfS (tNot (tB (tCl (sp_is_name K) [] ES0 (tCons (tVar 1) tNil)))) (tRet (tC .non)) tNext)
  (tRet (tDGet1 (tFd (He.ga K "People") (tVar 0) "by_name") (tVar 1))))
abbrev N_People_name_of : List Str := ["self", "number"]
def t_People_name_of (K : PySem.W.Frag) : TS :=
  (tRet (tDGet1 (tFd (He.ga K "People") (tVar 0) "by_number") (tVar 1)))
abbrev N_People_number_of : List Str := ["self", "name"]
def t_People_number_of (K : PySem.W.Frag) (W : WX) : TS :=
  (tSeq (tIfS (tNot (tB (tCl (sp_is_name K) [] ES0 (tCons (tVar 1) tNil)))) (tRs (He.ga K "NoName") W) tNext)
  (tSeq (tIfS (tB (tDNotIn (tVar 1) (tFd (He.ga K "People") (tVar 0) "by_name"))) (tSeq (sFdAdd (He.ga K "People") (tVar 0) (tC (.int 1)) "many")
  (tSeq (sDPut (tFd (He.ga K "People") (tVar 0) "by_name") (tVar 1) (tFd (He.ga K "People") (tVar 0) "many"))
  (sDPut (tFd (He.ga K "People") (tVar 0) "by_number") (tFd (He.ga K "People") (tVar 0) "many") (tVar 1)))) tNext)
  (tRet (tDGet (tFd (He.ga K "People") (tVar 0) "by_name") (tVar 1)))))
abbrev N_People_numbers : List Str := ["self"]
def t_People_numbers (K : PySem.W.Frag) : TS :=
  (tRet (tCB rSortedKV (tCons (tKeysV (tFd (He.ga K "People") (tVar 0) "by_number")) tNil)))
abbrev N_People___init__ : List Str := ["self"]
def t_People___init__ (K : PySem.W.Frag) : TS :=
  (tSeq (sFd (He.ga K "People") (tVar 0) tDNewK "by_name")
  (tSeq (sFd (He.ga K "People") (tVar 0) tDNewK "by_number")
  (sFd (He.ga K "People") (tVar 0) (tC (.int 0)) "many")))
abbrev N_People_cut_off : List Str := ["self", "name", "number"]
def t_People_cut_off (K : PySem.W.Frag) (W : WX) : TS :=
  (tSeq (tAsg (tMt (He.ga K "People") "known" (sp_People_known K) [] ES0 (tVar 0) (tCons (tVar 1) tNil)) (gName 2))
  (tSeq (tIfS (tTest (tOp rIsNn (tVar 2) (tC .non))) (tRs (He.ga K "NoPerson") W) tNext)
  (tSeq (tDrop (tDPop1 (tFd (He.ga K "People") (tVar 0) "by_name") (tVar 1)))
  (tRet (tVar 2)))))
end G

set_option Elab.async false
set_option linter.all false
set_option maxRecDepth 100000
set_option maxHeartbeats 4000000
/-! The readings of is_name and of People keep their promises. -/
namespace G
open PySem PySem.Spec PyProof.Rows L2 U
variable {K : PySem.W.Frag}

theorem pure_is_name (vs : List V) (H : Hp) (Q : VK) (E : XK) (h : sp_is_name K vs H Q E) : t_is_name K { nx := fun _ H' => Q .non H', rt := Q } (start N_is_name vs) H := by
  unfold sp_is_name at h
  split at h
  · rename_i v
    obtain ⟨kn, k⟩ := h
    obtain ⟨T, ty, kt⟩ := kn.isS K
    refine ⟨v, rfl, v, _, _, _, _, rfl, .ty "str", ty, kt, _, rfl, ?_⟩
    cases hs : isStrV v
    rotate_left
    · obtain ⟨z, rfl⟩ := isStrV_str hs
      refine iteF ?_
      refine ⟨_, rfl, rfl, _, rfl, ?_⟩
      by_cases h0 : z = ""
      · subst h0
        refine iteT (iteT ?_)
        exact k H (Same.refl H)
      · have e0 : decide (V.str z = V.str "") = false := decide_eq_false (fun e => h0 (V.str.inj e))
        rw [e0]
        refine iteF ?_
        refine ⟨_, rfl, z, rfl, Nat.le_trans kn.tx.len (by decide), _, _, rfl, rfl, _, rfl, ?_⟩
        have hz : z.length ≠ 0 := fun e => h0 (by
          obtain ⟨a⟩ := z
          have e1 : a.size = 0 := e
          have e2 : a = #[] := Array.eq_empty_of_size_eq_zero e1
          rw [e2]
          rfl)
        by_cases h8 : (8 : Int) < z.length
        · refine ite2 (fun _ => ?_) (fun n => absurd (decide_eq_true h8) n)
          have e1 : isNm (V.str z) = false := by
            show isNmS z = false
            unfold isNmS
            rw [decide_eq_false (show ¬ z.length ≤ 8 by omega)]
            simp
          have e2 := k H (Same.refl H)
          rw [e1] at e2
          exact e2
        · refine ite2 (fun n => absurd (of_decide_eq_true n) h8) (fun _ => ?_)
          refine ⟨_, rfl, z, rfl, fun D hD => ?_⟩
          refine lcs_m (fun c => V.bl (decide (c ∈ abc.cps.toList))) (show z.length ≤ 1000000 from Nat.le_trans kn.tx.len (by decide)) (fun c acc R _ r => ?_) ?_
          · exact ⟨_, rfl, c, _, rfl, rfl, r⟩
          · refine ⟨D, z.cps.toList.map (fun c => decide (c ∈ abc.cps.toList)), rfl, ?_, ?_⟩
            · refine SqL.of ?_
              rw [upd_same, List.map_map]
              rfl
            · have e2 := k (upd H D (.lst (List.map (fun c => V.bl (decide (c ∈ abc.cps.toList))) z.cps.toList))) (same_new hD)
              have e1 : isNm (V.str z) = (z.cps.toList.map (fun c => decide (c ∈ abc.cps.toList))).all id := by
                show isNmS z = _
                unfold isNmS
                rw [decide_eq_true (show 1 ≤ z.length by omega), decide_eq_true (show z.length ≤ 8 by omega)]
                simp [List.all_map, Function.comp_def]
              rw [e1] at e2
              exact e2
    · refine iteT (iteT ?_)
      have e1 : isNm v = false := isNm_notStr hs
      have e2 := k H (Same.refl H)
      rw [e1] at e2
      exact e2
  · exact h.elim

/-! ### fields -/
theorem fP_name {d1 d2 : Addr} {n : Int} : List.lookup ("by_name" : Str) (fPpl d1 d2 n) = some (V.ref d1) := by rfl
theorem fP_number {d1 d2 : Addr} {n : Int} : List.lookup ("by_number" : Str) (fPpl d1 d2 n) = some (V.ref d2) := by rfl
theorem fP_many {d1 d2 : Addr} {n : Int} : List.lookup ("many" : Str) (fPpl d1 d2 n) = some (V.int n) := by rfl
theorem fP_put {d1 d2 : Addr} {n m : Int} : putF "many" (.int m) (fPpl d1 d2 n) = fPpl d1 d2 m := by rfl

/-! ### the dicts -/
theorem nmD_val : ∀ (l : List (Str × Int)) (x : Str), valV (nmD l) (Sum.inr x) = (l.lookup x).map V.int
  | [], x => rfl
  | (y, n) :: r, x => by
    show ((((Sum.inr y : Key), V.int n) :: nmD r).find? fun kv => decide (kv.1 = Sum.inr x)).map (·.2) = _
    rw [List.find?_cons, List.lookup_cons]
    by_cases e : y = x
    · subst e
      simp
    · have e1 : decide ((Sum.inr y : Key) = Sum.inr x) = false := decide_eq_false (fun z => e (Sum.inr.inj z))
      have e2 : (x == y) = false := beq_eq_false_iff_ne.mpr (fun z => e z.symm)
      simp only [e1, e2]
      exact nmD_val r x
theorem nuD_val : ∀ (l : List (Int × Str)) (x : Int), valV (nuD l) (Sum.inl x) = (l.lookup x).map V.str
  | [], x => rfl
  | (y, n) :: r, x => by
    show ((((Sum.inl y : Key), V.str n) :: nuD r).find? fun kv => decide (kv.1 = Sum.inl x)).map (·.2) = _
    rw [List.find?_cons, List.lookup_cons]
    by_cases e : y = x
    · subst e
      simp
    · have e1 : decide ((Sum.inl y : Key) = Sum.inl x) = false := decide_eq_false (fun z => e (Sum.inl.inj z))
      have e2 : (x == y) = false := beq_eq_false_iff_ne.mpr (fun z => e z.symm)
      simp only [e1, e2]
      exact nuD_val r x
theorem nmD_len (l : List (Str × Int)) : (nmD l).length = l.length := List.length_map _
theorem nuD_len (l : List (Int × Str)) : (nuD l).length = l.length := List.length_map _

theorem pure_People_known (vs : List V) (H : Hp) (Q : VK) (E : XK) (h : sp_People_known K vs H Q E) : t_People_known K { nx := fun _ H' => Q .non H', rt := Q } (start N_People_known vs) H := by
  unfold sp_People_known at h
  split at h
  · rename_i p v
    obtain ⟨d1, d2, S, P, kn, k1, k2⟩ := h
    obtain ⟨dx, hp⟩ := P.ob
    refine ⟨v, rfl, kn, fun H1 s1 => ⟨_, rfl, ?_⟩⟩
    cases hn : isNm v
    · exact iteT (k1 hn H1 s1)
    · obtain ⟨x, rfl⟩ := isNm_str hn
      refine iteF ?_
      refine ⟨_, rfl, p, dx, _, _, rfl, s1 _ _ hp, fP_name, d1, rfl, .inl ⟨_, .inl (s1 _ _ P.h1)⟩, _, rfl, _, DGet.k (k := Sum.inr x) (s1 _ _ P.h1), ?_⟩
      rw [nmD_val]
      exact k2 x rfl hn H1 s1
  · exact h.elim

theorem lookup_none_lt {l : List (Int × Str)} {m : Nat} (h : ∀ q ∈ l, q.1 ≤ (m : Int)) : l.lookup ((m : Int) + 1) = none := by
  induction l with
  | nil => rfl
  | cons q r ih =>
    rw [List.lookup_cons]
    have h1 := h q (List.mem_cons_self ..)
    have e : (((m : Int) + 1) == q.1) = false := beq_eq_false_iff_ne.mpr (by omega)
    rw [e]
    exact ih fun z hz => h z (List.mem_cons_of_mem _ hz)
theorem nm_put {l : List (Str × Int)} {x : Str} {n : Int} (h : l.lookup x = none) : putK (nmD l) (Sum.inr x) (V.int n) = nmD (l ++ [(x, n)]) := by
  rw [putK_new _ (by rw [nmD_val, h]; rfl)]
  unfold nmD
  rw [List.map_append]
  rfl
theorem nu_put {l : List (Int × Str)} {x : Str} {n : Int} (h : l.lookup n = none) : putK (nuD l) (Sum.inl n) (V.str x) = nuD (l ++ [(n, x)]) := by
  rw [putK_new _ (by rw [nuD_val, h]; rfl)]
  unfold nuD
  rw [List.map_append]
  rfl
theorem nm_drop (l : List (Str × Int)) (x : Str) : dropK (nmD l) (Sum.inr x) = nmD (l.filter fun q => decide (q.1 ≠ x)) := by
  unfold dropK nmD
  rw [List.filter_map]
  congr 1
  refine List.filter_congr fun q _ => ?_
  by_cases e : q.1 = x
  · simp [e]
  · simp [e]

theorem pure_People_number_of (vs : List V) (H : Hp) (Q : VK) (E : XK) (h : sp_People_number_of K vs H Q E) : t_People_number_of K (fun cls d _ H => E cls d H) { nx := fun _ H' => Q .non H', rt := Q } (start N_People_number_of vs) H := by
  unfold sp_People_number_of at h
  split at h
  · rename_i p v
    obtain ⟨d1, d2, S, P, l1, l2, kn, k1, k2⟩ := h
    obtain ⟨dx, hp⟩ := P.ob
    refine ⟨v, rfl, kn, fun H1 s1 => ⟨_, rfl, ?_⟩⟩
    cases hn : isNm v
    · exact iteT (k1 hn H1 s1)
    · obtain ⟨x, rfl⟩ := isNm_str hn
      refine iteF ?_
      have hp1 := s1 _ _ hp
      have a1 := s1 _ _ P.h1
      have a2 := s1 _ _ P.h2
      have np1 : p ≠ d1 := ne_of hp1 a1 (by intro q; cases q)
      have np2 : p ≠ d2 := ne_of hp1 a2 (by intro q; cases q)
      refine ⟨_, rfl, _, rfl, p, dx, _, _, rfl, hp1, fP_name, d1, _, rfl, DGet.k (k := Sum.inr x) a1, _, rfl, ?_⟩
      rw [nmD_val]
      have k3 := k2 x rfl hn
      unfold Ppl.come Ppl.num Ppl.look at k3
      cases hl : S.nm.lookup x with
      | some n =>
        rw [hl] at k3
        refine iteF ?_
        refine ⟨_, rfl, p, dx, _, _, rfl, hp1, fP_name, _, rfl, d1, V.int n, rfl, .inl ⟨_, Sum.inr x, .inl a1, rfl, by rw [nmD_val, hl]; rfl⟩, ?_⟩
        exact k3 H1 ⟨⟨dx, hp1⟩, a1, a2, P.ne, P.l1, P.l2, P.lt⟩ (.same s1)
      | none =>
        rw [hl] at k3
        refine iteT ?_
        refine ⟨_, rfl, p, dx, _, _, rfl, hp1, fP_many, _, dx, _, rfl, hp1, (by show 3 < 1000; decide), ?_⟩
        rw [fP_put]
        refine ⟨_, rfl, p, dx, _, _, rfl, upd_same, fP_many, _, rfl, p, dx, _, _, rfl, upd_same, fP_name, _, rfl, d1, _, rfl, DPut.k (k := Sum.inr x) (by rw [upd_ne np1.symm]; exact a1) (by rw [nmD_len, sizeLine_eq]; omega), ?_⟩
        rw [nm_put hl]
        refine ⟨_, rfl, _, rfl, p, dx, _, _, rfl, by rw [upd_ne np1, upd_same], fP_number, _, rfl, p, dx, _, _, rfl, by rw [upd_ne np1, upd_same], fP_many, d2, _, rfl,
          DPut.k (k := Sum.inl ((S.many : Int) + 1)) (by rw [upd_ne P.ne.symm, upd_ne np2.symm]; exact a2) (by rw [nuD_len, sizeLine_eq]; omega), ?_⟩
        rw [nu_put (lookup_none_lt P.lt)]
        refine ⟨_, rfl, p, dx, _, _, rfl, by rw [upd_ne np2, upd_ne np1, upd_same], fP_name, _, rfl, d1, V.int ((S.many : Int) + 1), rfl, .inl ⟨_, Sum.inr x, .inl (by rw [upd_ne P.ne, upd_same]), rfl, ?_⟩, ?_⟩
        · rw [nmD_val, List.lookup_append, hl]
          simp
        · refine k3 _ ⟨⟨dx, by rw [upd_ne np2, upd_ne np1, upd_same]; rfl⟩, by rw [upd_ne P.ne, upd_same], upd_same, P.ne, ?_, ?_, ?_⟩ ?_
          · show (S.nm ++ [(x, (S.many : Int) + 1)]).length ≤ 1000
            rw [List.length_append, List.length_singleton]
            omega
          · show (S.nu ++ [((S.many : Int) + 1, x)]).length ≤ 1000
            rw [List.length_append, List.length_singleton]
            omega
          · intro q hq
            rcases List.mem_append.mp hq with hq | hq
            · have := P.lt q hq
              show q.1 ≤ ((S.many + 1 : Nat) : Int)
              omega
            · rw [List.mem_singleton.mp hq]
              show (S.many : Int) + 1 ≤ ((S.many + 1 : Nat) : Int)
              omega
          · exact (((Keep.same s1).put (by simp)).put (by simp)).put (by simp)
  · exact h.elim

theorem pure_People_cut_off (vs : List V) (H : Hp) (Q : VK) (E : XK) (h : sp_People_cut_off K vs H Q E) : t_People_cut_off K (fun cls d _ H => E cls d H) { nx := fun _ H' => Q .non H', rt := Q } (start N_People_cut_off vs) H := by
  unfold sp_People_cut_off at h
  split at h
  · rename_i p v
    obtain ⟨d1, d2, S, P, kn, k1, k2, k3⟩ := h
    obtain ⟨dx, hp⟩ := P.ob
    refine ⟨_, rfl, p, dx, _, rfl, hp, (by rfl), _, rfl, d1, d2, S, P, kn, fun hn H1 s1 => ?_, fun x e hn H1 s1 => ?_⟩
    · exact ⟨_, rfl, rfl, _, rfl, iteT (k1 hn H1 s1)⟩
    · subst e
      cases hl : S.look x with
      | none => exact ⟨_, rfl, rfl, _, rfl, iteT (k2 x rfl hn hl H1 s1)⟩
      | some n =>
        refine ⟨_, rfl, rfl, _, rfl, iteF ?_⟩
        have hp1 := s1 _ _ hp
        have a1 := s1 _ _ P.h1
        have a2 := s1 _ _ P.h2
        refine ⟨_, rfl, p, dx, _, _, rfl, hp1, fP_name, d1, rfl, .inl ⟨_, .inl a1⟩, _, rfl, _, Sum.inr x, V.int n, a1, rfl, by rw [nmD_val]; show (S.look x).map V.int = _; rw [hl]; rfl, ?_⟩
        rw [nm_drop]
        refine ⟨_, rfl, k3 x n rfl hn hl _ ⟨⟨dx, ?_⟩, upd_same, ?_, P.ne, ?_, P.l2, P.lt⟩ ((Keep.same s1).put (by simp))⟩
        · rw [upd_ne (ne_of hp1 a1 (by intro q; cases q))]
          exact hp1
        · rw [upd_ne P.ne.symm]
          exact a2
        · exact Nat.le_trans (List.length_filter_le _ _) P.l1
  · exact h.elim

theorem pure_People_name_of (vs : List V) (H : Hp) (Q : VK) (E : XK) (h : sp_People_name_of K vs H Q E) : t_People_name_of K { nx := fun _ H' => Q .non H', rt := Q } (start N_People_name_of vs) H := by
  unfold sp_People_name_of at h
  split at h
  · rename_i p n
    obtain ⟨d1, d2, S, P, k⟩ := h
    obtain ⟨dx, hp⟩ := P.ob
    refine ⟨_, rfl, p, dx, _, _, rfl, hp, fP_number, d2, rfl, .inl ⟨_, .inl P.h2⟩, _, rfl, _, DGet.k (k := Sum.inl n) P.h2, ?_⟩
    rw [nuD_val]
    exact k
  · exact h.elim

theorem pure_People_numbers (vs : List V) (H : Hp) (Q : VK) (E : XK) (h : sp_People_numbers K vs H Q E) : t_People_numbers K { nx := fun _ H' => Q .non H', rt := Q } (start N_People_numbers vs) H := by
  unfold sp_People_numbers at h
  split at h
  · rename_i p
    obtain ⟨d1, d2, S, P, l, k⟩ := h
    obtain ⟨dx, hp⟩ := P.ob
    refine ⟨_, rfl, p, dx, _, _, rfl, hp, fP_number, d2, _, rfl, .inl P.h2, fun q hq => ?_⟩
    refine ⟨q, d2, _, S.nu.map (·.1), rfl, upd_same, .inl (by rw [upd_ne (ne_of_none P.h2 hq)]; exact P.h2), ?_, by rw [List.length_map]; exact l, fun ys a py sy ha => ?_⟩
    · unfold nuD
      rw [List.map_map, List.map_map]
      rfl
    · have ha0 : H a = none := (same_new hq).free ha
      exact k ys _ a py sy ha0 (U.Same.new (same_new hq) ha) upd_same
  · exact h.elim

theorem pure_People___init__ (vs : List V) (H : Hp) (Q : VK) (E : XK) (h : sp_People___init__ K vs H Q E) : t_People___init__ K { nx := fun _ H' => Q .non H', rt := Q } (start N_People___init__ vs) H := by
  unfold sp_People___init__ at h
  split at h
  · rename_i p
    obtain ⟨dx, hp, k⟩ := h
    intro d1 n1
    have np1 : p ≠ d1 := ne_of_none hp n1
    refine ⟨_, rfl, p, dx, _, rfl, by rw [upd_ne np1]; exact hp, (by show 0 < 1000; decide), ?_⟩
    intro d2 n2
    have nd : d1 ≠ d2 := fun e => by
      rw [← e, upd_ne np1.symm, upd_same] at n2
      cases n2
    have np2 : p ≠ d2 := fun e => by
      rw [← e, upd_same] at n2
      cases n2
    refine ⟨_, rfl, p, dx, _, rfl, by rw [upd_ne np2, upd_same], (by show 1 < 1000; decide), _, rfl, p, dx, _, rfl, upd_same, (by show 2 < 1000; decide), ?_⟩
    refine k d1 d2 _ ⟨⟨dx, by rw [upd_same]; rfl⟩, ?_, ?_, nd, Nat.zero_le _, Nat.zero_le _, fun q hq => by cases hq⟩ n1 ?_ ?_
    · rw [upd_ne np1.symm, upd_ne np1.symm, upd_ne nd, upd_ne np1.symm, upd_same]
      rfl
    · rw [upd_ne np2.symm, upd_ne np2.symm, upd_same]
      rfl
    · rw [upd_ne np2.symm, upd_ne nd.symm] at n2
      exact n2
    · have n20 : H d2 = none := by
        rw [upd_ne np2.symm, upd_ne nd.symm] at n2
        exact n2
      exact ((((Keep.refl.new n1).put (by simp)).new n20).put (by simp)).put (by simp)
  · exact h.elim
end G

set_option Elab.async false
set_option linter.all false
set_option maxRecDepth 100000
set_option maxHeartbeats 4000000
/-! Promises of what most laws have: pots and draws. -/
namespace G
open PySem PySem.Spec PyProof.Rows L2 U
/-- a pot stands at p -/
def PotAt (H : Hp) (p : Addr) : Prop := ∃ a b : Int, H p = some (.lst [.int a, .int b]) ∧ 0 ≤ a ∧ 0 ≤ b ∧ b < 2147483648
theorem PotAt.keep {l : List Addr} {H H' : Hp} {p : Addr} (h : PotAt H p) (k : Keep l H H') (n : p ∉ l) : PotAt H' p := by
  obtain ⟨a, b, e, r⟩ := h
  exact ⟨a, b, k.k _ _ e n, r⟩
def sp__law_draw (K : PySem.W.Frag) : Sp := fun vs H Q _ => match vs with
  | [.ref p, .int n] => PotAt H p ∧ 0 < n ∧ n ≤ 1000000000000000000000000000000000000000000000000000000000000 ∧ ∀ d H', 0 ≤ d → d < n → PotAt H' p → Keep [p] H H' → Q (.int d) H'
  | _ => False
/-- a word of one to eight letters -/
def isWd (z : Str) : Prop := 1 ≤ z.length ∧ z.length ≤ 8 ∧ ∀ c ∈ z.cps.toList, c ∈ abc.cps.toList
def sp__law_pot (K : PySem.W.Frag) : Sp := fun vs H Q _ => match vs with
  | [.int c] => ∀ p H', H p = none → PotAt H' p → Same H H' → Q (.ref p) H'
  | _ => False
def sp__law_word (K : PySem.W.Frag) : Sp := fun vs H Q _ => match vs with
  | [.ref p] => PotAt H p ∧ ∀ z H', isWd z → PotAt H' p → Keep [p] H H' → Q (.str z) H'
  | _ => False
def sp__law_is_name (K : PySem.W.Frag) : Sp := fun vs H Q _ => match vs with
  | [v] => Kn K H v ∧ ∀ H', Same H H' → Q (.bl (isNm v)) H'
  | _ => False
end G

set_option Elab.async false
set_option linter.all false
set_option maxRecDepth 100000
set_option maxHeartbeats 4000000

/-! Readings, printed by gen.py. -/
namespace G
open PySem PySem.Spec PyProof.Rows L2 U
abbrev N__law_is_name : List Str := ["_law_thing_here", "_law_sign"]
def t__law_is_name (K : PySem.W.Frag) : TS :=
  (tSeq (tIfS (tOr (tNot (tB (tCB (rIsi K) (tCons (tVar 0) (tCons (tC (.ty "str")) tNil))))) (tOr (tTest (tOp rLtI (tCB rLenStr (tCons (tVar 0) tNil)) (tC (.int 1)))) (tTest (tOp rGtI (tCB rLenStr (tCons (tVar 0) tNil)) (tC (.int 8)))))) (tRet (tC (.bl false))) tNext)
  (tRet (tOp (rEqD K) (tLc (iStr (tVar 0)) (gName 1) (tTest (tOp rNiSg (tVar 1) (tC (.str "abcdefghijklmnopqrstuvwxyz")))) (tVar 1) [1]) (tLst tNil))))
abbrev N__law_pot : List Str := ["_law_cell_here"]
def t__law_pot (K : PySem.W.Frag) : TS :=
  (tRet (tLst (tCons (tCB rMax2 (tCons (tC (.int 0)) (tCons (tOp rSubI (tCB rAbs (tCons (tVar 0) tNil)) (tOp rPowI (tC (.int 10)) (tC (.int 18)))) tNil))) (tCons (tOp rAddI (tOp rModI (tCB rAbs (tCons (tVar 0) tNil)) (tC (.int 2147483629))) (tC (.int 1))) tNil))))
abbrev N__law_draw : List Str := ["_law_pot_here", "_law_many", "_law_digit"]
def t__law_draw (K : PySem.W.Frag) : TS :=
  (tSeq (tIfS (tTest (tOp rGtI (tOp (rIxL K) (tVar 0) (tC (.int 0))) (tC (.int 0)))) (tSeq (tAsg (tCB rDivmod (tCons (tOp (rIxL K) (tVar 0) (tC (.int 0))) (tCons (tVar 1) tNil))) (gTup K 2 (gCons (gSub (tVar 0) (tC (.int 0)) rSetL) (gCons (gName 2) gNil))))
  (tRet (tVar 2))) tNext)
  (tSeq (tAsg (tOp rModI (tOp rAddI (tOp rMulI (tOp (rIxL K) (tVar 0) (tC (.int 1))) (tC (.int 48271))) (tC (.int 11))) (tC (.int 2147483647))) (gSub (tVar 0) (tC (.int 1)) rSetL))
  (tRet (tOp rModI (tOp rFdivI (tOp rModI (tOp rMulI (tOp (rIxL K) (tVar 0) (tC (.int 1))) (tOp (rIxL K) (tVar 0) (tC (.int 1)))) (tC (.int 2147483629))) (tC (.int 3))) (tVar 1)))))
abbrev N__law_word : List Str := ["_law_pot_here", "_law_k"]
def t__law_word (K : PySem.W.Frag) : TS :=
  (tRet (tM1 (mJoin K) (tC (.str "")) (tLc (iRng1 (tCons (tOp rAddI (tC (.int 1)) (tCl (sp__law_draw K) [] ES0 (tCons (tVar 0) (tCons (tC (.int 8)) tNil)))) tNil)) (gName 1) tYes (tOp rIxS (tC (.str "abcdefghijklmnopqrstuvwxyz")) (tCl (sp__law_draw K) [] ES0 (tCons (tVar 0) (tCons (tC (.int 26)) tNil)))) [1])))
end G

set_option Elab.async false
set_option linter.all false
set_option maxRecDepth 100000
set_option maxHeartbeats 4000000
namespace G
open PySem PySem.Spec PyProof.Rows L2 U
variable {K : PySem.W.Frag}

theorem pure__law_pot (vs : List V) (H : Hp) (Q : VK) (E : XK) (h : sp__law_pot K vs H Q E) : t__law_pot K { nx := fun _ H' => Q .non H', rt := Q } (start N__law_pot vs) H := by
  unfold sp__law_pot at h
  split at h
  · rename_i c
    refine ⟨_, rfl, c, rfl, _, _, rfl, rfl, ⟨by decide, by decide, by decide⟩, _, _, rfl, rfl, _, _, rfl, _, rfl, c, rfl, _, _, rfl, rfl, (by show (0 : Int) < 2147483629; decide), _, _, rfl, rfl, (by show 2 ≤ sizeLine; decide), fun p hp => ?_⟩
    refine h p _ hp ⟨_, _, upd_same, ?_, ?_, ?_⟩ (same_new hp)
    · split <;> omega
    · have := Int.emod_nonneg (if c < 0 then -c else c) (show (2147483629 : Int) ≠ 0 by decide)
      omega
    · have := Int.emod_lt_of_pos (if c < 0 then -c else c) (show (0 : Int) < 2147483629 by decide)
      omega
  · exact h.elim

theorem pure__law_draw (vs : List V) (H : Hp) (Q : VK) (E : XK) (h : sp__law_draw K vs H Q E) : t__law_draw K { nx := fun _ H' => Q .non H', rt := Q } (start N__law_draw vs) H := by
  unfold sp__law_draw at h
  split at h
  · rename_i p n
    obtain ⟨⟨a, b, hp, ha, hb, hb2⟩, hn, hn2, k⟩ := h
    have at0 : ∀ x y : Int, atI [V.int x, V.int y] 0 = some (V.int x) := fun x y => rfl
    have at1 : ∀ x y : Int, atI [V.int x, V.int y] 1 = some (V.int y) := fun x y => rfl
    refine ⟨_, rfl, p, _, _, _, rfl, rfl, SqL.of hp, at0 a b, _, _, rfl, rfl, _, rfl, ?_⟩
    by_cases h0 : 0 < a
    · refine ite2 (fun _ => ?_) (fun z => absurd (decide_eq_true h0) z)
      refine ⟨_, rfl, p, _, _, _, rfl, rfl, SqL.of hp, at0 a b, _, rfl, _, _, rfl, cdp hn hn2, fun t ht => ?_⟩
      have npt : p ≠ t := ne_of_none hp ht
      refine ⟨t, _, rfl, .inl (.inl upd_same), rfl, _, _, rfl, _, rfl, p, _, _, 0, rfl, rfl, by rw [upd_ne npt]; exact hp, rfl, _, _, rfl, rfl, _, rfl, ?_⟩
      refine k _ _ (Int.emod_nonneg a (by omega)) (Int.emod_lt_of_pos a hn) ⟨_, _, upd_same, Int.ediv_nonneg ha (by omega), hb, hb2⟩ ?_
      exact (Keep.refl.new ht).put (by simp)
    · refine ite2 (fun z => absurd (of_decide_eq_true z) h0) (fun _ => ?_)
      refine ⟨_, rfl, p, _, _, _, rfl, rfl, SqL.of hp, at1 a b, _, _, rfl, rfl, .inr ⟨by decide, by decide⟩, _, _, rfl, rfl, _, _, rfl, rfl, (by show (0 : Int) < 2147483647; decide), _, rfl, p, _, _, 1, rfl, rfl, hp, rfl, ?_⟩
      have m1 := Int.emod_nonneg (b * 48271 + 11) (show (2147483647 : Int) ≠ 0 by decide)
      have m2 := Int.emod_lt_of_pos (b * 48271 + 11) (show (0 : Int) < 2147483647 by decide)
      have hp' : upd H p (.lst ([V.int a, V.int b].set 1 (V.int ((b * 48271 + 11) % 2147483647)))) p = some (.lst [V.int a, V.int ((b * 48271 + 11) % 2147483647)]) := upd_same
      refine ⟨_, rfl, p, _, _, _, rfl, rfl, SqL.of hp', at1 a _, _, rfl, p, _, _, _, rfl, rfl, SqL.of hp', at1 a _, _, _, rfl, rfl, .inl ⟨by omega, by omega⟩, _, _, rfl, rfl, (by show (0 : Int) < 2147483629; decide), _, _, rfl, rfl, cdw (by decide) (by decide), _, rfl, _, _, rfl, rfl, hn, ?_⟩
      exact k _ _ (Int.emod_nonneg _ (by omega)) (Int.emod_lt_of_pos _ hn) ⟨_, _, hp', ha, m1, by omega⟩ (Keep.refl.put (by simp))
  · exact h.elim

theorem pure__law_word (vs : List V) (H : Hp) (Q : VK) (E : XK) (h : sp__law_word K vs H Q E) : t__law_word K { nx := fun _ H' => Q .non H', rt := Q } (start N__law_word vs) H := by
  unfold sp__law_word at h
  split at h
  · rename_i p
    obtain ⟨hP, k⟩ := h
    refine ⟨⟨_, rfl⟩, _, rfl, hP, by decide, by decide, fun n H1 n0 n8 P1 k1 => ?_⟩
    refine ⟨_, _, rfl, rfl, _, rfl, by omega, by omega, fun D hD => ?_⟩
    have pd : p ≠ D := by
      obtain ⟨a, b, e, _⟩ := P1
      exact ne_of_none e hD
    have hD0 : H D = none := k1.free (by simp [pd.symm]) hD
    have hPD : PotAt (upd H1 D (.lst [])) p := P1.keep (l := []) (.same (same_new hD)) (by simp)
    refine lc_range (g := gName 1) (vs := [1]) (lo := 0) (n := (1 + n).toNat) (fun i H' => PotAt H' p ∧ Keep [p] H H' ∧ ∃ cs : List Nat, cs.length = i ∧ (∀ c ∈ cs, c ∈ abc.cps.toList) ∧ H' D = some (.lst (cs.map fun c => V.str ⟨#[c]⟩))) ⟨hPD, k1.new hD0, [], rfl, by simp, upd_same⟩ (fun i H2 hi ⟨P2, k2, cs, hl, hc, hd⟩ => ?_) (fun H2 ⟨P2, k2, cs, hl, hc, hd⟩ => ?_)
    · refine ⟨wipe1, _, rfl, P2, by decide, by decide, fun d H3 d0 d26 P3 k3 => ?_⟩
      obtain ⟨c, hat, hmem⟩ := abc_at d0 d26
      have hd3 := k3.k _ _ hd (by simp [pd.symm])
      refine ⟨_, _, c, rfl, rfl, by rw [abc_size]; decide, hat, _, hd3, by rw [List.length_map, sizeLine_eq]; omega, ?_⟩
      refine ⟨P3.keep (l := [D]) (Keep.refl.put (by simp)) (by simp [pd]), (k2.trans k3).new hD0, cs ++ [c], by simp [hl], ?_, by rw [upd_same, List.map_append]; rfl⟩
      intro x hx
      rcases List.mem_append.mp hx with hx | hx
      · exact hc x hx
      · rw [List.mem_singleton.mp hx]
        exact hmem
    · refine ⟨_, D, cs.map fun c => (⟨#[c]⟩ : Str), rfl, rfl, .inl (SqL.of (by rw [hd, List.map_map]; rfl)), ?_, ?_⟩
      · rw [signs_len, List.length_map]
        show cs.length + cs.length * 0 ≤ 16777216
        omega
      · rw [join_signs]
        refine k _ _ ⟨by rw [SX.S_len]; omega, by rw [SX.S_len]; omega, fun c hx => hc c ?_⟩ P2 k2
        simpa using hx
  · exact h.elim
theorem pure__law_is_name (vs : List V) (H : Hp) (Q : VK) (E : XK) (h : sp__law_is_name K vs H Q E) : t__law_is_name K { nx := fun _ H' => Q .non H', rt := Q } (start N__law_is_name vs) H := by
  unfold sp__law_is_name at h
  split at h
  · rename_i v
    obtain ⟨kn, k⟩ := h
    obtain ⟨T, ty, kt⟩ := kn.isS K
    refine ⟨v, rfl, v, _, _, _, _, rfl, .ty "str", ty, kt, _, rfl, ?_⟩
    cases hs : isStrV v
    rotate_left
    · obtain ⟨z, rfl⟩ := isStrV_str hs
      refine iteF ?_
      have hz : z.length ≤ sizeLine := Nat.le_trans kn.tx.len (by decide)
      have k0 := k H (Same.refl H)
      refine ⟨_, rfl, z, rfl, hz, _, _, rfl, rfl, _, rfl, ?_⟩
      by_cases h1 : (z.length : Int) < 1
      · refine ite2 (fun _ => ?_) (fun n => absurd (decide_eq_true h1) n)
        have e1 : isNm (V.str z) = false := by
          show isNmS z = false
          unfold isNmS
          rw [decide_eq_false (show ¬ 1 ≤ z.length by omega)]
          simp
        rw [e1] at k0
        exact k0
      · refine ite2 (fun n => absurd (of_decide_eq_true n) h1) (fun _ => ?_)
        refine ⟨_, rfl, z, rfl, hz, _, _, rfl, rfl, _, rfl, ?_⟩
        by_cases h8 : (8 : Int) < z.length
        · refine ite2 (fun _ => ?_) (fun n => absurd (decide_eq_true h8) n)
          have e1 : isNm (V.str z) = false := by
            show isNmS z = false
            unfold isNmS
            rw [decide_eq_false (show ¬ z.length ≤ 8 by omega)]
            simp
          rw [e1] at k0
          exact k0
        · refine ite2 (fun n => absurd (of_decide_eq_true n) h8) (fun _ => ?_)
          refine ⟨_, rfl, z, rfl, fun D hD => ?_⟩
          refine lcs_fm (fun c => !decide (c ∈ abc.cps.toList)) (fun c => V.str ⟨#[c]⟩) (show z.length ≤ 1000000 from Nat.le_trans kn.tx.len (by decide)) (fun c acc R _ r => ?_) (fun c acc R _ _ r => ?_) ?_
          · exact ⟨_, rfl, c, _, rfl, rfl, _, rfl, r⟩
          · exact ⟨_, rfl, r⟩
          · refine ⟨Nat.zero_le _, fun L hL => ?_⟩
            have nDL : D ≠ L := fun e => by
              rw [← e, upd_same] at hL
              cases hL
            refine ⟨.list ((((z.cps.toList.filter fun c => !decide (c ∈ abc.cps.toList)).map fun c => (⟨#[c]⟩ : Str))).map PyData.str), .list [], .lst (SqL.of (xs := ((z.cps.toList.filter fun c => !decide (c ∈ abc.cps.toList)).map fun c => (⟨#[c]⟩ : Str)).map V.str) ?_) (dpAll_strs _), .lst (SqL.of upd_same) .nil, shaped_strs ?_, rfl, ?_⟩
            · rw [upd_ne nDL, upd_same, List.map_map]
              rfl
            · intro y hy c hc
              obtain ⟨c', hc', rfl⟩ := List.mem_map.mp hy
              have e : c = c' := by simpa using hc
              rw [e]
              exact kn.tx.ok c' (List.mem_filter.mp hc').1
            · rw [eqv_nil]
              have e2 := k _ (U.Same.new (same_new (o := HO.lst ((z.cps.toList.filter fun c => !decide (c ∈ abc.cps.toList)).map fun c => V.str ⟨#[c]⟩)) hD) (o := HO.lst []) hL)
              have e1 : isNm (V.str z) = (List.map PyData.str ((z.cps.toList.filter fun c => !decide (c ∈ abc.cps.toList)).map fun c => (⟨#[c]⟩ : Str))).isEmpty := by
                show isNmS z = _
                unfold isNmS
                rw [decide_eq_true (show 1 ≤ z.length by omega), decide_eq_true (show z.length ≤ 8 by omega), Bool.true_and, Bool.true_and]
                rw [Bool.eq_iff_iff, List.isEmpty_iff, List.map_eq_nil_iff, List.map_eq_nil_iff, List.filter_eq_nil_iff, List.all_eq_true]
                simp
              rw [e1] at e2
              exact e2
    · refine iteT (iteT ?_)
      have e1 : isNm v = false := isNm_notStr hs
      have e2 := k H (Same.refl H)
      rw [e1] at e2
      exact e2
  · exact h.elim

theorem isWd.ok {z : Str} (h : isWd z) : TxOk z := ⟨by have := h.2.1; omega, fun c hc => by
  have h1 := h.2.2 c hc
  have h2 : ∀ d ∈ abc.cps.toList, d < 1114112 := by decide +kernel
  exact h2 c h1⟩
end G

set_option Elab.async false
set_option linter.all false
set_option maxRecDepth 100000
set_option maxHeartbeats 4000000
namespace G
open PySem PySem.Spec PyProof.Rows L2 U
def sp__law_thing (K : PySem.W.Frag) : Sp := fun vs H Q _ => match vs with
  | [.ref p] => PotAt H p ∧ ∀ v H', Kn K H' v → (∀ a, v = .ref a → H a = none) → Keep [p] H H' → Q v H'
  | _ => False
def sp__law_refused (K : PySem.W.Frag) : Sp := fun vs H Q _ => match vs with
  | [.ref p, v] => ErrK K ∧ isNm v = false ∧ Kn K H v ∧ (∃ d1 d2 S, PplAt K H p d1 d2 S ∧ S.nm.length < 1000 ∧ S.nu.length < 1000) ∧ ∀ H', Same H H' → Q (.bl true) H'
  | _ => False
def sp__law_nobody (K : PySem.W.Frag) : Sp := fun vs H Q _ => match vs with
  | [.ref p, v] => ErrK K ∧ isNm v = false ∧ Kn K H v ∧ (∃ d1 d2 S, PplAt K H p d1 d2 S) ∧ ∀ H', Same H H' → Q (.bl true) H'
  | _ => False
def sp__law_number (K : PySem.W.Frag) : Sp := fun vs H Q _ => match vs with
  | [.int a, .int b] => Q (.bl (decide (a = b))) H
  | _ => False
def sp_law (K : PySem.W.Frag) : Sp := fun vs H Q _ => match vs with
  | [.ref a] => ErrK K ∧ ∃ ns : List Int, SqL K H a (ns.map V.int) ∧ ns.length ≤ 63 ∧ ∀ H', Q (.bl true) H'
  | _ => False
end G

set_option Elab.async false
set_option linter.all false
set_option maxRecDepth 100000
set_option maxHeartbeats 4000000

/-! Readings, printed by gen.py. -/
namespace G
open PySem PySem.Spec PyProof.Rows L2 U
abbrev N__law_nobody : List Str := ["_law_people", "_law_thing_here", "_law_good", "e"]
def t__law_nobody (K : PySem.W.Frag) : TS :=
  (tSeq (tAsg (tC (.bl false)) (gName 2))
  (tSeq (fun D σ H => (fun W => (tDrop (tMt (He.ga K "People") "cut_off" (sp_People_cut_off K) [] (WE W) (tVar 0) (tCons (tVar 1) tNil)))) (wAs K (.ref (He.ga K "HallError")) 3 (fun ea cls ed => (tAsg (tAndV (tCB (rIsX K ea cls ed) (tCons (tVar 3) (tCons (tC (.ref (He.ga K "NoPerson"))) tNil))) (tNotV (tCB (rIsXT K ea cls ed) (tCons (tVar 3) (tCons (tTup (tCons (tC (.ref (He.ga K "NoName"))) (tCons (tC (.ref (He.ga K "NoThing"))) (tCons (tC (.ref (He.ga K "NoHold"))) tNil)))) tNil))))) (gName 2))) (fun _ _ _ _ => False) D) D σ H)
  (tRet (tVar 2))))
abbrev N__law_number : List Str := ["_law_found", "_law_due"]
def t__law_number (K : PySem.W.Frag) : TS :=
  (tRet (tAndV (tCB (rIsi K) (tCons (tVar 0) (tCons (tC (.ty "int")) tNil))) (tAndV (tNotV (tCB (rIsi K) (tCons (tVar 0) (tCons (tC (.ty "bool")) tNil)))) (tOp rEq (tVar 0) (tVar 1)))))
abbrev N__law_refused : List Str := ["_law_people", "_law_thing_here", "_law_good", "e", "_law_others"]
def t__law_refused (K : PySem.W.Frag) : TS :=
  (tSeq (tAsg (tC (.bl false)) (gName 2))
  (tSeq (fun D σ H => (fun W => (tDrop (tMt (He.ga K "People") "number_of" (sp_People_number_of K) [] (WE W) (tVar 0) (tCons (tVar 1) tNil)))) (wAs K (.ref (He.ga K "HallError")) 3 (fun ea cls ed => (tSeq (tAsg (tCB (rIsXT K ea cls ed) (tCons (tVar 3) (tCons (tTup (tCons (tC (.ref (He.ga K "Answered"))) (tCons (tC (.ref (He.ga K "BadKind"))) (tCons (tC (.ref (He.ga K "NoAnswer"))) (tCons (tC (.ref (He.ga K "NoDay"))) (tCons (tC (.ref (He.ga K "NoHold"))) (tCons (tC (.ref (He.ga K "NoKind"))) (tCons (tC (.ref (He.ga K "NoMatter"))) (tCons (tC (.ref (He.ga K "NoPerson"))) (tCons (tC (.ref (He.ga K "NoRows"))) tNil)))))))))) tNil))) (gName 4))
  (tSeq (tAsg (tOrV (tVar 4) (tCB (rIsXT K ea cls ed) (tCons (tVar 3) (tCons (tTup (tCons (tC (.ref (He.ga K "NoTelling"))) (tCons (tC (.ref (He.ga K "NoText"))) (tCons (tC (.ref (He.ga K "NoThing"))) (tCons (tC (.ref (He.ga K "NoWay"))) (tCons (tC (.ref (He.ga K "Taken"))) tNil)))))) tNil)))) (gName 4))
  (tAsg (tAndV (tCB (rIsX K ea cls ed) (tCons (tVar 3) (tCons (tC (.ref (He.ga K "NoName"))) tNil))) (tAndV (tCB (rIsX K ea cls ed) (tCons (tVar 3) (tCons (tC (.ty "ValueError")) tNil))) (tNotV (tVar 4)))) (gName 2))))) (fun _ _ _ _ => False) D) D σ H)
  (tRet (tVar 2))))
abbrev N__law_thing : List Str := ["_law_pot_here", "_law_word_here", "_law_way", "_law_at", "_law_sign"]
def t__law_thing (K : PySem.W.Frag) : TS :=
  (tSeq (tAsg (tCl (sp__law_word K) [] ES0 (tCons (tVar 0) tNil)) (gName 1))
  (tSeq (tAsg (tCl (sp__law_draw K) [] ES0 (tCons (tVar 0) (tCons (tC (.int 6)) tNil))) (gName 2))
  (tSeq (tIfS (tTest (tOp rGtI (tVar 2) (tC (.int 2)))) (tRet (tVar 1)) tNext)
  (tSeq (tAsg (tCl (sp__law_draw K) [] ES0 (tCons (tVar 0) (tCons (tOp rAddI (tCB rLenStr (tCons (tVar 1) tNil)) (tC (.int 1))) tNil))) (gName 3))
  (tSeq (tAsg (tOp rIxS (tC (.str "AZ09 _\n.z-")) (tCl (sp__law_draw K) [] ES0 (tCons (tVar 0) (tCons (tC (.int 10)) tNil)))) (gName 4))
  (tSeq (tIfS (tTest (tOp rEq (tVar 2) (tC (.int 0)))) (tRet (tOp rAddS (tOp rAddS (tSl rSlS (tVar 1) tNoPart (tPart (tVar 3))) (tVar 4)) (tSl rSlS (tVar 1) (tPart (tVar 3)) tNoPart))) tNext)
  (tSeq (tIfS (tTest (tOp rEq (tVar 2) (tC (.int 1)))) (tRet (tOp rAddS (tOp rAddS (tSl rSlS (tVar 1) tNoPart (tPart (tVar 3))) (tVar 4)) (tSl rSlS (tVar 1) (tPart (tOp rAddI (tVar 3) (tC (.int 1)))) tNoPart))) tNext)
  (tRet (tOp (rIxL K) (tLst (tCons (tC (.str "")) (tCons (tC (.int 7)) (tCons (tC (.bl true)) (tCons (tC .non) (tCons (tLst (tCons (tVar 1) tNil)) (tCons (tTup (tCons (tVar 1) tNil)) (tCons (tDisp [((tVar 1), (tVar 1))]) (tCons (tOp rMulS (tVar 1) (tC (.int 9))) tNil))))))))) (tCl (sp__law_draw K) [] ES0 (tCons (tVar 0) (tCons (tC (.int 8)) tNil))))))))))))
abbrev N_law : List Str := ["_law_script", "_law_people", "_law_names", "_law_cell_here", "_law_thing_here", "_law_good", "_law_found", "_law_due", "_law_k"]
def t_law (K : PySem.W.Frag) : TS :=
  (tSeq (tAsg (tMk (He.ga K "People") (sp_People___init__ K) [] ES0 tNil) (gName 1))
  (tSeq (tAsg (tLst tNil) (gName 2))
  (tSeq (tFor (iList K (tSl (rSlL K) (tVar 0) tNoPart (tPart (tC (.int 40))))) (gName 3) (tSeq (tAsg (tCl (sp__law_thing K) [] ES0 (tCons (tCl (sp__law_pot K) [] ES0 (tCons (tVar 3) tNil)) tNil)) (gName 4))
  (tSeq (tAsg (tCl (sp__law_is_name K) [] ES0 (tCons (tVar 4) tNil)) (gName 5))
  (tSeq (tAsg (tCl (sp_is_name K) [] ES0 (tCons (tVar 4) tNil)) (gName 6))
  (tSeq (tIfS (tOr (tNot (tB (tCB (rIsi K) (tCons (tVar 6) (tCons (tC (.ty "bool")) tNil))))) (tTest (tOp rNe (tVar 6) (tVar 5)))) (tRet (tC (.bl false))) tNext)
  (tIfS (tNot (tB (tVar 5))) (tIfS (tOr (tNot (tB (tCl (sp__law_refused K) [] ES0 (tCons (tVar 1) (tCons (tVar 4) tNil))))) (tOr (tTest (tOp rNotNn (tMt (He.ga K "People") "known" (sp_People_known K) [] ES0 (tVar 1) (tCons (tVar 4) tNil)) (tC .non))) (tNot (tB (tCl (sp__law_nobody K) [] ES0 (tCons (tVar 1) (tCons (tVar 4) tNil))))))) (tRet (tC (.bl false))) tNext) (tSeq (tIfS (tTest (tOp (rIn K true) (tVar 4) (tVar 2))) (tSeq (tIfS (tTest (tOp rNotNn (tMt (He.ga K "People") "known" (sp_People_known K) [] ES0 (tVar 1) (tCons (tVar 4) tNil)) (tC .non))) (tRet (tC (.bl false))) tNext)
  (tDrop (tBM K "list" rAppend (tVar 2) (tCons (tVar 4) tNil)))) tNext)
  (tSeq (tAsg (tOp rAddI (tC (.int 1)) (tBM K "list" (rIndex K) (tVar 2) (tCons (tVar 4) tNil))) (gName 7))
  (tIfS (tOr (tNot (tB (tCl (sp__law_number K) [] ES0 (tCons (tMt (He.ga K "People") "number_of" (sp_People_number_of K) [] ES0 (tVar 1) (tCons (tVar 4) tNil)) (tCons (tVar 7) tNil))))) (tNot (tB (tCl (sp__law_number K) [] ES0 (tCons (tMt (He.ga K "People") "known" (sp_People_known K) [] ES0 (tVar 1) (tCons (tVar 4) tNil)) (tCons (tVar 7) tNil)))))) (tRet (tC (.bl false))) tNext)))))))))
  (tSeq (tIfS (tTest (tOp (rNeD K) (tMt (He.ga K "People") "numbers" (sp_People_numbers K) [] ES0 (tVar 1) tNil) (tLstRg (tRg2 (tC (.int 1)) (tOp rAddI (tCB (rLenSeq K) (tCons (tVar 2) tNil)) (tC (.int 1))))))) (tRet (tC (.bl false))) tNext)
  (tRet (tAndV (tOp (rEqD K) (tLc (iList K (tMt (He.ga K "People") "numbers" (sp_People_numbers K) [] ES0 (tVar 1) tNil)) (gName 8) tYes (tMt (He.ga K "People") "name_of" (sp_People_name_of K) [] ES0 (tVar 1) (tCons (tVar 8) tNil)) [8]) (tVar 2)) (tCl (sp__law_refused K) [] ES0 (tCons (tVar 1) (tCons (tC (.str "")) tNil)))))))))
end G

set_option Elab.async false
set_option linter.all false
set_option maxRecDepth 100000
set_option maxHeartbeats 4000000
namespace G
open PySem PySem.Spec PyProof.Rows L2 U
variable {K : PySem.W.Frag}

abbrev odd : Str := "AZ09 _\n.z-"
theorem odd_len : odd.cps.toList.length = 10 := by decide +kernel
theorem odd_size : odd.length = 10 := by decide +kernel
theorem odd_ok : ∀ d ∈ odd.cps.toList, d < 1114112 := by decide +kernel
theorem mul9 {z : Str} (h : TxOk z) (hl : z.length ≤ 8) : TxOk (Txt.mul z 9) := by
  unfold Txt.mul
  rw [if_neg (by decide)]
  split
  · exact h
  · have e : (⟨(List.replicate (9 : Int).toNat z.cps).foldl (· ++ ·) #[]⟩ : Str).cps.toList = (List.replicate 9 z.cps.toList).flatten := by
      show ((List.replicate 9 z.cps).foldl (· ++ ·) #[]).toList = _
      simp [List.replicate]
    refine ⟨?_, fun c hc => ?_⟩
    · have e2 := congrArg List.length e
      simp [List.replicate] at e2
      show ((List.replicate (9 : Int).toNat z.cps).foldl (· ++ ·) #[]).size ≤ 100000
      have hl' : z.cps.size ≤ 8 := hl
      show ((List.replicate 9 z.cps).foldl (· ++ ·) #[]).size ≤ 100000
      simp only [List.replicate, List.foldl, Array.size_append, Array.size_empty]
      omega
    · rw [e] at hc
      obtain ⟨l, h1, h2⟩ := List.mem_flatten.mp hc
      rw [List.eq_of_mem_replicate h1] at h2
      exact h.2 c h2

theorem pure__law_thing (vs : List V) (H : Hp) (Q : VK) (E : XK) (h : sp__law_thing K vs H Q E) : t__law_thing K { nx := fun _ H' => Q .non H', rt := Q } (start N__law_thing vs) H := by
  unfold sp__law_thing at h
  split at h
  · rename_i p
    obtain ⟨hP, k⟩ := h
    refine ⟨_, rfl, hP, fun z H1 hz P1 k1 => ?_⟩
    have hzs : z.length ≤ sizeLine := Nat.le_trans hz.2.1 (by decide)
    have zl := hz.2.1
    refine ⟨_, rfl, P1, by decide, by decide, fun w H2 w0 w6 P2 k2 => ?_⟩
    have k2 := k1.trans k2
    refine ⟨_, rfl, _, _, rfl, rfl, _, rfl, ?_⟩
    by_cases hw : 2 < w
    · refine ite2 (fun _ => ?_) (fun n => absurd (decide_eq_true hw) n)
      exact ⟨_, rfl, k _ _ (.str hz.ok) (fun a e => nomatch e) k2⟩
    · refine ite2 (fun n => absurd (of_decide_eq_true n) hw) (fun _ => ?_)
      refine ⟨_, rfl, _, rfl, z, rfl, hzs, _, _, rfl, rfl, P2, by omega, by omega, fun d H3 d0 d1 P3 k3 => ?_⟩
      have k3 := k2.trans k3
      refine ⟨_, rfl, P3, by decide, by decide, fun e H4 e0 e1 P4 k4 => ?_⟩
      have k4 := k3.trans k4
      obtain ⟨c, hat, hmem⟩ := str_at odd_len e0 e1
      refine ⟨_, _, c, rfl, rfl, by rw [odd_size]; decide, hat, ?_⟩
      have cut1 : ∀ lo hi, (cutS z lo hi).length ≤ 8 := fun lo hi => Nat.le_trans (cutS_length z lo hi) zl
      have c1 : (⟨#[c]⟩ : Str).length = 1 := rfl
      have full : ∀ lo hi lo' hi', TxOk (cutS z lo hi ++ (⟨#[c]⟩ : Str) ++ cutS z lo' hi') := fun lo hi lo' hi' =>
        ((hz.ok.cut lo hi).cat (one_ok (odd_ok c hmem)) (cut1 _ _) (Nat.le_refl 1) (by decide)).cat (n := 9) (hz.ok.cut lo' hi') (by rw [str_cat_len, c1]; have := cut1 lo hi; omega) (cut1 _ _) (by decide)
      refine ⟨_, rfl, rfl, _, rfl, ?_⟩
      by_cases hw0 : w = 0
      · subst hw0
        refine ite2 (fun _ => ?_) (fun n => absurd (decide_eq_true rfl) n)
        refine ⟨_, rfl, _, rfl, _, rfl, z, rfl, hzs, _, rfl, _, _, rfl, rfl, by rw [c1, sizeLine_eq]; have := cut1 none (some d); omega, _, rfl, _, rfl, _, rfl, z, rfl, hzs, _, _, rfl, rfl, by rw [str_cat_len, c1, sizeLine_eq]; have := cut1 none (some d); have := cut1 (some d) none; omega, ?_⟩
        exact k _ _ (.str (full _ _ _ _)) (fun a e => nomatch e) k4
      · refine ite2 (fun n => absurd (V.int.inj (of_decide_eq_true n)) hw0) (fun _ => ?_)
        refine ⟨_, rfl, rfl, _, rfl, ?_⟩
        by_cases hw1 : w = 1
        · subst hw1
          refine ite2 (fun _ => ?_) (fun n => absurd (decide_eq_true rfl) n)
          refine ⟨_, rfl, _, rfl, _, rfl, z, rfl, hzs, _, rfl, _, _, rfl, rfl, by rw [c1, sizeLine_eq]; have := cut1 none (some d); omega, _, rfl, _, rfl, _, _, rfl, rfl, _, rfl, z, rfl, hzs, _, _, rfl, rfl, by rw [str_cat_len, c1, sizeLine_eq]; have := cut1 none (some d); have := cut1 (some (d + 1)) none; omega, ?_⟩
          exact k _ _ (.str (full _ _ _ _)) (fun a e => nomatch e) k4
        · refine ite2 (fun n => absurd (V.int.inj (of_decide_eq_true n)) hw1) (fun _ => ?_)
          refine ⟨_, rfl, (by show 1 ≤ sizeLine; decide), fun l1 hl1 => ?_⟩
          refine ⟨_, rfl, (by show 1 ≤ sizeLine; decide), fun t1 ht1 => ?_⟩
          intro d1' hd1
          refine ⟨_, rfl, _, rfl, upd_same, [(Sum.inr z, V.str z)], rfl, (by show 1 ≤ 15; decide), ?_⟩
          rw [upd_upd]
          refine ⟨_, rfl, z, 9, rfl, rfl, mulOk_of 8 9 zl (by decide) (by decide) (by decide) (by decide), (by show 8 ≤ sizeLine; decide), fun L hL => ?_⟩
          have s1 : Same H4 (upd H4 l1 (.lst [V.str z])) := same_new hl1
          have s2 : Same H4 (upd (upd H4 l1 (.lst [V.str z])) t1 (.tup [V.str z])) := U.Same.new s1 ht1
          have s3 := U.Same.new (o := HO.dK (mergeK [] [(Sum.inr z, V.str z)])) s2 hd1
          have s4 := U.Same.new (o := HO.lst [V.str "", V.int 7, V.bl true, V.non, V.ref l1, V.ref t1, V.ref d1', V.str (Txt.mul z 9)]) s3 hL
          have fr : ∀ x, H4 x = none → x ≠ p → H x = none := fun x hx nx => k4.free (by simp [nx]) hx
          have hpp : ∀ x, H4 x = none → x ≠ p := fun x hx e => by
            obtain ⟨a, b, ep, _⟩ := P4
            rw [e, ep] at hx
            cases hx
          have fl1 := hl1
          have ft1 : H4 t1 = none := s1.free ht1
          have fd1 : H4 d1' = none := s2.free hd1
          have nl1 : l1 ≠ t1 := fun e => by
            rw [← e, upd_same] at ht1
            cases ht1
          have nl2 : l1 ≠ d1' := fun e => by
            rw [← e, upd_ne nl1, upd_same] at hd1
            cases hd1
          have nt2 : t1 ≠ d1' := fun e => by
            rw [← e, upd_same] at hd1
            cases hd1
          have nL1 : l1 ≠ L := fun e => by
            rw [← e, upd_ne nl2, upd_ne nl1, upd_same] at hL
            cases hL
          have nL2 : t1 ≠ L := fun e => by
            rw [← e, upd_ne nt2, upd_same] at hL
            cases hL
          have nL3 : d1' ≠ L := fun e => by
            rw [← e, upd_same] at hL
            cases hL
          refine ⟨_, rfl, P4.keep (l := []) (.same s4) (by simp), by decide, by decide, fun x H5 x0 x8 P5 k5 => ?_⟩
          have np1 := hpp l1 fl1
          have np2 := hpp t1 ft1
          have np3 := hpp d1' fd1
          have k6 : Keep [p] H H5 := (k4.trans (.same s4)).trans k5
          have gL : H5 L = some (.lst [V.str "", V.int 7, V.bl true, V.non, V.ref l1, V.ref t1, V.ref d1', V.str (Txt.mul z 9)]) := k5.k _ _ upd_same (by simp [hpp L (s3.free hL)])
          have g1 : H5 l1 = some (.lst [V.str z]) := k5.k _ _ (by rw [upd_ne nL1, upd_ne nl2, upd_ne nl1, upd_same]) (by simp [np1])
          have g2 : H5 t1 = some (.tup [V.str z]) := k5.k _ _ (by rw [upd_ne nL2, upd_ne nt2, upd_same]) (by simp [np2])
          have g3 : H5 d1' = some (.dK (mergeK [] [(Sum.inr z, V.str z)])) := k5.k _ _ (by rw [upd_ne nL3, upd_same]) (by simp [np3])
          obtain ⟨j, rfl⟩ : ∃ j : Nat, x = (j : Int) := ⟨x.toNat, by omega⟩
          have fin : ∀ v, Kn K H5 v → (∀ a, v = .ref a → H a = none) → atI [V.str "", V.int 7, V.bl true, V.non, V.ref l1, V.ref t1, V.ref d1', V.str (Txt.mul z 9)] (j : Int) = some v →
            rIxL K (V.ref L) (V.int (j : Int)) H5 Q := fun v kn fr0 at_ => ⟨L, _, _, v, rfl, rfl, SqL.of gL, at_, k v H5 kn fr0 k6⟩
          match j, x8 with
          | 0, _ => exact fin (V.str "") (.str nil_ok) (fun a e => nomatch e) rfl
          | 1, _ => exact fin (V.int 7) (.int _) (fun a e => nomatch e) rfl
          | 2, _ => exact fin (V.bl true) (.bl _) (fun a e => nomatch e) rfl
          | 3, _ => exact fin V.non .non (fun a e => nomatch e) rfl
          | 4, _ => exact fin (V.ref l1) (.lst g1) (fun a e => by cases e; exact fr _ fl1 np1) rfl
          | 5, _ => exact fin (V.ref t1) (.tup g2) (fun a e => by cases e; exact fr _ ft1 np2) rfl
          | 6, _ => exact fin (V.ref d1') (.dct g3) (fun a e => by cases e; exact fr _ fd1 np3) rfl
          | 7, _ => exact fin (V.str (Txt.mul z 9)) (.str (mul9 hz.ok zl)) (fun a e => nomatch e) rfl
          | j + 8, h => omega
  · exact h.elim

theorem pure__law_refused (vs : List V) (H : Hp) (Q : VK) (E : XK) (h : sp__law_refused K vs H Q E) : t__law_refused K { nx := fun _ H' => Q .non H', rt := Q } (start N__law_refused vs) H := by
  unfold sp__law_refused at h
  split at h
  · rename_i p v
    obtain ⟨EK, hn, kn, ⟨d1, d2, S, P, l1, l2⟩, k⟩ := h
    obtain ⟨dx, hp⟩ := P.ob
    refine ⟨_, rfl, p, dx, _, rfl, hp, rfl, _, rfl, d1, d2, S, P, l1, l2, kn, fun _ H1 s1 => ?_, fun x e hx => by rw [hn] at hx; cases hx⟩
    have nN : ("NoName" : Str) ∈ errNames := by decide +kernel
    refine ⟨true, EK.exm _ nN, fun _ a0 _ => ?_, fun q => Bool.noConfusion q⟩
    refine ⟨_, rfl, (by show 9 ≤ sizeLine; decide), fun tp htp => ⟨_, tp, _, _, _, rfl, rfl, EK.exc _ nN, rfl, upd_same, clsv_errs K ["Answered", "BadKind", "NoAnswer", "NoDay", "NoHold", "NoKind", "NoMatter", "NoPerson", "NoRows"], kitAny_errs EK nN _ (by decide +kernel), ?_⟩⟩
    refine ⟨_, rfl, _, rfl, _, rfl, (by show 5 ≤ sizeLine; decide), fun tq htq => ⟨_, tq, _, _, _, rfl, rfl, EK.exc _ nN, rfl, upd_same, clsv_errs K ["NoTelling", "NoText", "NoThing", "NoWay", "Taken"], kitAny_errs EK nN _ (by decide +kernel), ?_⟩⟩
    refine ⟨_, rfl, _, _, _, _, rfl, rfl, EK.exc _ nN, rfl, .own _, EK.kit _ nN _ nN, true, rfl, ?_⟩
    refine ⟨_, rfl, _, _, _, _, rfl, rfl, EK.exc _ nN, rfl, .ty _, EK.kitV _ nN, true, rfl, ?_⟩
    refine ⟨_, rfl, false, rfl, ?_⟩
    exact ⟨_, rfl, k _ ((U.Same.new (U.Same.new s1 htp) htq))⟩
  · exact h.elim
theorem pure__law_nobody (vs : List V) (H : Hp) (Q : VK) (E : XK) (h : sp__law_nobody K vs H Q E) : t__law_nobody K { nx := fun _ H' => Q .non H', rt := Q } (start N__law_nobody vs) H := by
  unfold sp__law_nobody at h
  split at h
  · rename_i p v
    obtain ⟨EK, hn, kn, ⟨d1, d2, S, P⟩, k⟩ := h
    obtain ⟨dx, hp⟩ := P.ob
    refine ⟨_, rfl, p, dx, _, rfl, hp, rfl, _, rfl, d1, d2, S, P, kn, fun _ H1 s1 => ?_, (fun x e hx => by rw [hn] at hx; cases hx), (fun x n e hx => by rw [hn] at hx; cases hx)⟩
    have nN : ("NoPerson" : Str) ∈ errNames := by decide +kernel
    refine ⟨true, EK.exm _ nN, fun _ a0 _ => ?_, fun q => Bool.noConfusion q⟩
    refine ⟨_, rfl, _, _, _, _, rfl, rfl, EK.exc _ nN, rfl, .own _, EK.kit _ nN _ nN, true, rfl, ?_⟩
    refine ⟨_, rfl, (by show 3 ≤ sizeLine; decide), fun tp htp => ⟨_, tp, _, _, _, rfl, rfl, EK.exc _ nN, rfl, upd_same, clsv_errs K ["NoName", "NoThing", "NoHold"], kitAny_errs EK nN _ (by decide +kernel), false, rfl, ?_⟩⟩
    exact ⟨_, rfl, k _ (U.Same.new s1 htp)⟩
  · exact h.elim
theorem kit_ii : kitB "int" "int" = some true := by decide +kernel
theorem kit_ib : kitB "int" "bool" = some false := by decide +kernel
theorem kit_bb : kitB "bool" "bool" = some true := by decide +kernel
theorem pure__law_number (vs : List V) (H : Hp) (Q : VK) (E : XK) (h : sp__law_number K vs H Q E) : t__law_number K { nx := fun _ H' => Q .non H', rt := Q } (start N__law_number vs) H := by
  unfold sp__law_number at h
  split at h
  · rename_i a b
    refine ⟨_, rfl, _, _, _, _, _, rfl, .ty "int", .base (.int a), kit_ty kit_ii, true, rfl, ?_⟩
    refine ⟨_, rfl, _, _, _, _, _, rfl, .ty "bool", .base (.int a), kit_ty kit_ib, _, rfl, _, rfl, ?_⟩
    refine ⟨_, rfl, _, rfl, rfl, ?_⟩
    have e : decide (V.int a = V.int b) = decide (a = b) := by simp
    rw [e]
    exact h
  · exact h.elim
end G

set_option Elab.async false
set_option linter.all false
set_option maxRecDepth 100000
set_option maxHeartbeats 4000000
/-! The law itself. -/
namespace G
open PySem PySem.Spec PyProof.Rows L2 U
variable {K : PySem.W.Frag}

/-! ### the mathematics: names that came, one behind another -/
def nmF : Nat → List Str → List (Str × Int)
  | _, [] => []
  | k, x :: r => (x, (k : Int) + 1) :: nmF (k + 1) r
def nuF : Nat → List Str → List (Int × Str)
  | _, [] => []
  | k, x :: r => ((k : Int) + 1, x) :: nuF (k + 1) r
def ofN (ns : List Str) : Ppl := ⟨nmF 0 ns, nuF 0 ns, ns.length⟩
theorem nmF_len : ∀ k ns, (nmF k ns).length = ns.length
  | _, [] => rfl
  | k, _ :: r => congrArg (· + 1) (nmF_len (k + 1) r)
theorem nuF_len : ∀ k ns, (nuF k ns).length = ns.length
  | _, [] => rfl
  | k, _ :: r => congrArg (· + 1) (nuF_len (k + 1) r)
theorem nmF_snoc : ∀ k ns x, nmF k (ns ++ [x]) = nmF k ns ++ [(x, ((k + ns.length : Nat) : Int) + 1)]
  | k, [], x => rfl
  | k, y :: r, x => by
    show (y, (k : Int) + 1) :: nmF (k + 1) (r ++ [x]) = (y, (k : Int) + 1) :: (nmF (k + 1) r ++ [(x, ((k + (r.length + 1) : Nat) : Int) + 1)])
    rw [nmF_snoc (k + 1) r x, show k + 1 + r.length = k + (r.length + 1) by omega]
theorem nuF_snoc : ∀ k ns x, nuF k (ns ++ [x]) = nuF k ns ++ [(((k + ns.length : Nat) : Int) + 1, x)]
  | k, [], x => rfl
  | k, y :: r, x => by
    show ((k : Int) + 1, y) :: nuF (k + 1) (r ++ [x]) = ((k : Int) + 1, y) :: (nuF (k + 1) r ++ [(((k + (r.length + 1) : Nat) : Int) + 1, x)])
    rw [nuF_snoc (k + 1) r x, show k + 1 + r.length = k + (r.length + 1) by omega]
theorem nmF_none : ∀ {k ns x}, x ∉ ns → (nmF k ns).lookup x = none
  | _, [], _, _ => rfl
  | k, y :: r, x, h => by
    show List.lookup x ((y, (k : Int) + 1) :: nmF (k + 1) r) = none
    rw [List.lookup_cons, beq_eq_false_iff_ne.mpr (fun e => h (by rw [e]; exact List.mem_cons_self ..))]
    exact nmF_none fun m => h (List.mem_cons_of_mem _ m)
theorem nmF_at : ∀ {k ns x} {j : Nat}, ns.Nodup → ns[j]? = some x → (nmF k ns).lookup x = some ((k + j : Nat) + 1 : Int)
  | k, [], x, j, _, h => by simp at h
  | k, y :: r, x, 0, _, h => by
    have e : y = x := Option.some.inj h
    subst e
    show List.lookup y ((y, (k : Int) + 1) :: nmF (k + 1) r) = _
    rw [List.lookup_cons, beq_self_eq_true]
    rfl
  | k, y :: r, x, j + 1, nd, h => by
    obtain ⟨n1, n2⟩ := List.nodup_cons.mp nd
    have hx : x ∈ r := List.mem_of_getElem? (show r[j]? = some x from h)
    show List.lookup x ((y, (k : Int) + 1) :: nmF (k + 1) r) = _
    rw [List.lookup_cons, beq_eq_false_iff_ne.mpr (fun e => n1 (by rw [← e]; exact hx))]
    have ih := nmF_at (k := k + 1) (j := j) n2 (show r[j]? = some x from h)
    rw [show k + 1 + j = k + (j + 1) by omega] at ih
    exact ih
theorem nuF_keys : ∀ k ns, (nuF k ns).map (·.1) = (List.range ns.length).map fun i => ((k + i : Nat) : Int) + 1
  | _, [] => rfl
  | k, x :: r => by
    show ((k : Int) + 1) :: (nuF (k + 1) r).map (·.1) = (List.range (r.length + 1)).map fun i => ((k + i : Nat) : Int) + 1
    rw [nuF_keys (k + 1) r, List.range_succ_eq_map, List.map_cons, List.map_map]
    congr 1
    refine List.map_congr_left fun i _ => ?_
    show ((k + 1 + i : Nat) : Int) + 1 = ((k + (i + 1) : Nat) : Int) + 1
    omega
theorem nuF_at : ∀ {k ns} (j : Nat), j < ns.length → (nuF k ns).lookup (((k + j : Nat) : Int) + 1) = ns[j]?
  | k, [], j, h => absurd h (Nat.not_lt_zero _)
  | k, x :: r, 0, _ => by
    show List.lookup (((k + 0 : Nat) : Int) + 1) (((k : Int) + 1, x) :: nuF (k + 1) r) = some x
    rw [List.lookup_cons]
    simp
  | k, x :: r, j + 1, h => by
    show List.lookup (((k + (j + 1) : Nat) : Int) + 1) (((k : Int) + 1, x) :: nuF (k + 1) r) = r[j]?
    rw [List.lookup_cons, beq_eq_false_iff_ne.mpr (by omega)]
    have ih := nuF_at (k := k + 1) (ns := r) j (by simpa using h)
    rw [show k + 1 + j = k + (j + 1) by omega] at ih
    exact ih
theorem nuF_le : ∀ k ns, ∀ q ∈ nuF k ns, q.1 ≤ ((k + ns.length : Nat) : Int)
  | k, [], q, h => by cases h
  | k, x :: r, q, h => by
    rcases List.mem_cons.mp (show q ∈ ((k : Int) + 1, x) :: nuF (k + 1) r from h) with e | h
    · rw [e]
      show (k : Int) + 1 ≤ ((k + (r.length + 1) : Nat) : Int)
      omega
    · have := nuF_le (k + 1) r q h
      show q.1 ≤ ((k + (r.length + 1) : Nat) : Int)
      omega
theorem come_new {ns : List Str} {x : Str} (h : x ∉ ns) : (ofN ns).come x = ofN (ns ++ [x]) := by
  have e : (ofN ns).look x = none := nmF_none h
  unfold Ppl.come
  rw [e]
  show (⟨nmF 0 ns ++ [(x, (ns.length : Int) + 1)], nuF 0 ns ++ [((ns.length : Int) + 1, x)], ns.length + 1⟩ : Ppl) = ⟨nmF 0 (ns ++ [x]), nuF 0 (ns ++ [x]), (ns ++ [x]).length⟩
  rw [nmF_snoc, nuF_snoc, List.length_append, List.length_singleton, Nat.zero_add]
theorem come_old {ns : List Str} {x : Str} {j : Nat} (nd : ns.Nodup) (h : ns[j]? = some x) : (ofN ns).come x = ofN ns := by
  have e : (ofN ns).look x = some ((0 + j : Nat) + 1 : Int) := nmF_at nd h
  unfold Ppl.come
  rw [e]
theorem num_new {ns : List Str} {x : Str} (h : x ∉ ns) : (ofN ns).num x = (ns.length : Int) + 1 := by
  have e : (ofN ns).look x = none := nmF_none h
  unfold Ppl.num
  rw [e]
  rfl
theorem num_old {ns : List Str} {x : Str} {j : Nat} (nd : ns.Nodup) (h : ns[j]? = some x) : (ofN ns).num x = (j : Int) + 1 := by
  have e : (ofN ns).look x = some ((0 + j : Nat) + 1 : Int) := nmF_at nd h
  unfold Ppl.num
  rw [e]
  show ((0 + j : Nat) : Int) + 1 = (j : Int) + 1
  omega
theorem inV_strs (ns : List Str) (x : Str) : inV (V.str x) (ns.map V.str) = decide (x ∈ ns) := by
  unfold inV
  rw [List.any_map, Bool.eq_iff_iff, List.any_eq_true, decide_eq_true_iff]
  constructor
  · rintro ⟨y, hy, e⟩
    have e2 : y = x := eq_of_beq (show (y == x) = true from e)
    rw [← e2]
    exact hy
  · intro h
    exact ⟨x, h, (show (x == x) = true from beq_self_eq_true x)⟩
theorem flat_strs (ns : List Str) : (ns.map V.str).all flatV = true := by
  rw [List.all_map]
  exact List.all_eq_true.mpr fun _ _ => rfl

theorem PplAt.same {H H' : Hp} {p d1 d2 : Addr} {S : Ppl} (P : PplAt K H p d1 d2 S) (s : Same H H') : PplAt K H' p d1 d2 S := by
  obtain ⟨dx, hp⟩ := P.ob
  exact ⟨⟨dx, s _ _ hp⟩, s _ _ P.h1, s _ _ P.h2, P.ne, P.l1, P.l2, P.lt⟩
theorem PplAt.keep {l : List Addr} {H H' : Hp} {p d1 d2 : Addr} {S : Ppl} (P : PplAt K H p d1 d2 S) (s : Keep l H H') (n0 : p ∉ l) (n1 : d1 ∉ l) (n2 : d2 ∉ l) : PplAt K H' p d1 d2 S := by
  obtain ⟨dx, hp⟩ := P.ob
  exact ⟨⟨dx, s.k _ _ hp n0⟩, s.k _ _ P.h1 n1, s.k _ _ P.h2 n2, P.ne, P.l1, P.l2, P.lt⟩

/-- what stands between two turns -/
structure Mid (K : PySem.W.Frag) (H : Hp) (p d1 d2 nl : Addr) (ns : List Str) (i : Nat) : Prop where
  ppl : PplAt K H p d1 d2 (ofN ns)
  lst : H nl = some (.lst (ns.map V.str))
  nd : ns.Nodup
  nm : ∀ x ∈ ns, TxOk x
  le : ns.length ≤ i
theorem Mid.same {H H' : Hp} {p d1 d2 nl : Addr} {ns : List Str} {i : Nat} (M : Mid K H p d1 d2 nl ns i) (s : Same H H') : Mid K H' p d1 d2 nl ns i := ⟨M.ppl.same s, s _ _ M.lst, M.nd, M.nm, M.le⟩
theorem Mid.next {H : Hp} {p d1 d2 nl : Addr} {ns : List Str} {i : Nat} (M : Mid K H p d1 d2 nl ns i) : Mid K H p d1 d2 nl ns (i + 1) := ⟨M.ppl, M.lst, M.nd, M.nm, Nat.le_succ_of_le M.le⟩
theorem Mid.apart {H : Hp} {p d1 d2 nl : Addr} {ns : List Str} {i : Nat} (M : Mid K H p d1 d2 nl ns i) : nl ≠ p ∧ nl ≠ d1 ∧ nl ≠ d2 := by
  obtain ⟨dx, hp⟩ := M.ppl.ob
  exact ⟨ne_of M.lst hp (by intro q; cases q), ne_of M.lst M.ppl.h1 (by intro q; cases q), ne_of M.lst M.ppl.h2 (by intro q; cases q)⟩

theorem rg_ints (n : Nat) : rgV 1 ((n : Int) + 1) = ((List.range n).map fun i => ((0 + i : Nat) : Int) + 1).map V.int := by
  unfold rgV
  rw [show ((n : Int) + 1 - 1).toNat = n by omega, List.map_map]
  refine List.map_congr_left fun i _ => ?_
  show V.int (1 + (i : Int)) = V.int (((0 + i : Nat) : Int) + 1)
  congr 1
  omega
theorem rg_rising (n : Nat) : ((List.range n).map fun i => ((0 + i : Nat) : Int) + 1).Pairwise (· ≤ ·) := by
  rw [List.pairwise_map]
  refine List.Pairwise.imp ?_ (List.pairwise_lt_range (n := n))
  intro a b h
  show ((0 + a : Nat) : Int) + 1 ≤ ((0 + b : Nat) : Int) + 1
  omega

theorem pure_law (vs : List V) (H : Hp) (Q : VK) (E : XK) (h : sp_law K vs H Q E) : t_law K { nx := fun _ H' => Q .non H', rt := Q } (start N_law vs) H := by
  unfold sp_law at h
  split at h
  · rename_i a
    obtain ⟨EK, ms, hS, hlen, k⟩ := h
    intro p dx np ndx nxp
    refine ⟨dx, upd_same, fun d1 d2 H1 P1 f1 f2 k1 => ⟨rfl, ?_⟩⟩
    have s1 : Same H H1 := fun b o e => k1.k b o (by rw [upd_ne (ne_of_none e np), upd_ne (ne_of_none e ndx)]; exact e) (by simp [ne_of_none e np])
    refine ⟨Nat.zero_le _, fun nl hnl => ?_⟩
    have s2 : Same H (upd H1 nl (.lst [])) := U.Same.new s1 hnl
    refine ⟨_, rfl, _, rfl, a, _, rfl, s2.seq hS, fun q hq => ?_⟩
    have M0 : Mid K (upd (upd H1 nl (.lst [])) q (.lst (cutV (ms.map V.int) none (some 40)))) p d1 d2 nl [] 0 := by
      refine ⟨?_, ?_, List.nodup_nil, (by simp), Nat.le_refl _⟩
      · exact (P1.same (same_new hnl)).same (same_new hq)
      · rw [upd_ne (ne_of_none (upd_same (H := H1) (a := nl) (o := .lst [])) hq), upd_same]
        rfl
    have hq0 : Same H (upd (upd H1 nl (.lst [])) q (.lst (cutV (ms.map V.int) none (some 40)))) := U.Same.new s2 hq
    have hcut : ∃ cs : List Int, cutV (ms.map V.int) none (some 40) = cs.map V.int ∧ cs.length ≤ 40 := by
      unfold cutV
      rw [← List.map_drop, ← List.map_take]
      refine ⟨_, rfl, ?_⟩
      rw [List.length_take]
      have : HT.sIx (ms.map V.int).length (ms.map V.int).length (some 40) ≤ 40 := by
        unfold HT.sIx
        simp only
        split <;> omega
      omega
    obtain ⟨cs, ecs, hcs⟩ := hcut
    rw [ecs] at M0 hq0 ⊢
    refine ⟨q, rfl, ⟨_, SqL.of upd_same⟩, for_list (K := K) (a := q) (xs := cs.map V.int)
      (fun i σ H' => ∃ ns v3 v4 v5 v6 v7 v8, σ = [some (.ref a), some (.ref p), some (.ref nl), v3, v4, v5, v6, v7, v8] ∧ Mid K H' p d1 d2 nl ns i ∧ H' q = some (.lst (cs.map V.int)) ∧ q ≠ nl ∧ q ≠ p ∧ q ≠ d1 ∧ q ≠ d2)
      ⟨[], _, _, _, _, _, _, rfl, M0, upd_same, ?_, ?_, ?_, ?_⟩ (fun i σ H' _ ⟨_, _, _, _, _, _, _, _, _, e, _⟩ => SqL.of e) ?_ ?_⟩
    · exact (ne_of_none (upd_same (H := H1) (a := nl) (o := .lst [])) hq).symm
    · obtain ⟨dx', hp'⟩ := (P1.same (same_new hnl)).ob
      exact (ne_of_none hp' hq).symm
    · exact (ne_of_none (P1.same (same_new hnl)).h1 hq).symm
    · exact (ne_of_none (P1.same (same_new hnl)).h2 hq).symm
    · rintro i y σ H' hi ⟨ns, v3, v4, v5, v6, v7, v8, rfl, M, hqq, n1, n2, n3, n4⟩
      obtain ⟨c, rfl⟩ : ∃ c, y = V.int c := by
        rw [List.getElem?_map] at hi
        cases e : cs[i]? with
        | none => rw [e] at hi; cases hi
        | some u => rw [e] at hi; exact ⟨u, (Option.some.inj hi).symm⟩
      have hi40 : i < 40 := by
        have := (List.getElem?_eq_some_iff.mp hi).1
        rw [List.length_map] at this
        omega
      -- the thing
      refine ⟨_, rfl, fun pp H2 np2 PP sp2 => ⟨PP, fun v H3 kn fr k3 => ?_⟩⟩
      have s3 : Same H' H3 := k3.drop sp2 np2
      refine ⟨_, rfl, kn, fun H4 s4 => ?_⟩
      have s4' := s3.trans s4
      refine ⟨_, rfl, kn.same s4, fun H5 s5 => ?_⟩
      have s5' := s4'.trans s5
      have kn5 : Kn K H5 v := (kn.same s4).same s5
      refine ⟨_, rfl, _, _, _, _, _, rfl, .ty "bool", .base (.bl _), kit_ty kit_bb, _, rfl, ?_⟩
      refine ⟨_, rfl, _, rfl, rfl, _, rfl, ?_⟩
      have ed : (!decide (V.bl (isNm v) = V.bl (isNm v))) = false := by rw [decide_eq_true rfl]; rfl
      rw [ed]
      refine iteF ?_
      have M5 := M.same s5'
      refine ⟨_, rfl, _, rfl, ?_⟩
      cases hn : isNm v
      · -- no name
        refine iteT ?_
        refine ⟨_, rfl, _, rfl, EK, hn, kn5, ⟨d1, d2, _, M5.ppl, ?_, ?_⟩, fun H6 s6 => ⟨_, rfl, iteF ?_⟩⟩
        · show (nmF 0 ns).length < 1000
          rw [nmF_len]
          have := M.le
          omega
        · show (nuF 0 ns).length < 1000
          rw [nuF_len]
          have := M.le
          omega
        have M6 := M5.same s6
        obtain ⟨dx6, hp6⟩ := M6.ppl.ob
        refine ⟨_, rfl, p, dx6, _, rfl, hp6, rfl, _, rfl, d1, d2, _, M6.ppl, kn5.same s6, (fun _ H7 s7 => ?_), (fun x e hx => by rw [hn] at hx; cases hx)⟩
        refine ⟨rfl, _, rfl, iteF ?_⟩
        have M7 := M6.same s7
        refine ⟨_, rfl, _, rfl, EK, hn, (kn5.same s6).same s7, ⟨d1, d2, _, M7.ppl⟩, fun H8 s8 => ⟨_, rfl, iteF ?_⟩⟩
        exact ⟨ns, _, _, _, _, _, _, rfl, (M7.same s8).next, s8 _ _ (s7 _ _ (s6 _ _ (s5' _ _ hqq))), n1, n2, n3, n4⟩
      · -- a name
        refine iteF ?_
        obtain ⟨x, rfl⟩ := isNm_str hn
        refine ⟨_, rfl, _, rfl, nl, _, rfl, .inl (SqL.of M5.lst), rfl, flat_strs ns, _, rfl, ?_⟩
        show if (if true = true then !inV (V.str x) (ns.map V.str) else inV (V.str x) (ns.map V.str)) = true then _ else _
        rw [if_pos rfl, inV_strs]
        obtain ⟨b1, b2, b3⟩ := M5.apart
        have hns : ns.length < 1000 := by have := M.le; omega
        -- what follows once the names hold x at j
        have go : ∀ (ns' : List Str) (j : Nat) (H6 : Hp), PplAt K H6 p d1 d2 (ofN ns) → H6 nl = some (.lst (ns'.map V.str)) → ns'.Nodup → (∀ x ∈ ns', TxOk x) → ns'.length ≤ i + 1 → ns'[j]? = some x → (ofN ns).come x = ofN ns' → (ofN ns).num x = (j : Int) + 1 → H6 q = some (.lst (cs.map V.int)) → TxOk x →
            ∀ (w3 w5 w6 w7 w8 : Option V), ∀ D : Ends, (∀ ns v3 v4 v5 v6 v7 v8 H', Mid K H' p d1 d2 nl ns (i + 1) → H' q = some (.lst (cs.map V.int)) → D.nx [some (.ref a), some (.ref p), some (.ref nl), v3, v4, v5, v6, v7, v8] H') →
            (tSeq (tAsg (tOp rAddI (tC (.int 1)) (tBM K "list" (rIndex K) (tVar 2) (tCons (tVar 4) tNil))) (gName 7))
              (tIfS (tOr (tNot (tB (tCl (sp__law_number K) [] ES0 (tCons (tMt (He.ga K "People") "number_of" (sp_People_number_of K) [] ES0 (tVar 1) (tCons (tVar 4) tNil)) (tCons (tVar 7) tNil))))) (tNot (tB (tCl (sp__law_number K) [] ES0 (tCons (tMt (He.ga K "People") "known" (sp_People_known K) [] ES0 (tVar 1) (tCons (tVar 4) tNil)) (tCons (tVar 7) tNil)))))) (tRet (tC (.bl false))) tNext))
              D [some (.ref a), some (.ref p), some (.ref nl), w3, some (.str x), w5, w6, w7, w8] H6 := by
          intro ns' j H6 P6 l6 nd6 nm6 le6 hj ec en q6 okx w3 w5 w6 w7 w8 D hD
          obtain ⟨dx6, hp6⟩ := P6.ob
          refine ⟨_, rfl, .inl ⟨rfl, _, SqL.of l6⟩, _, rfl, nl, _, _, j, V.str x, rfl, rfl, SqL.of l6, rfl, flat_strs ns', by rw [List.getElem?_map, hj]; rfl, (show (x == x) = true from beq_self_eq_true x), ?_, _, _, rfl, rfl, ?_⟩
          · intro m z' hm hz
            rw [List.getElem?_map] at hz
            cases e : ns'[m]? with
            | none => rw [e] at hz; cases hz
            | some y =>
              rw [e] at hz
              have ez : V.str y = z' := Option.some.inj hz
              rw [← ez]
              refine beq_eq_false_iff_ne.mpr fun eyx => ?_
              have := nd_ix nd6 e (by rw [eyx]; exact hj)
              omega
          · refine ⟨_, rfl, p, dx6, _, rfl, hp6, rfl, _, rfl, d1, d2, _, P6, ?_, ?_, .str okx, (fun z => by rw [hn] at z; cases z), fun x' e' _ H7 P7 k7 => ?_⟩
            · show (nmF 0 ns).length < 1000
              rw [nmF_len]
              exact hns
            · show (nuF 0 ns).length < 1000
              rw [nuF_len]
              exact hns
            cases e'
            rw [ec] at P7
            rw [en]
            refine ⟨_, rfl, _, rfl, ?_⟩
            rw [decide_eq_true (show (j : Int) + 1 = 1 + (j : Int) by omega)]
            refine iteF ?_
            obtain ⟨dx7, hp7⟩ := P7.ob
            refine ⟨_, rfl, p, dx7, _, rfl, hp7, rfl, _, rfl, d1, d2, _, P7, .str okx, (fun z => by rw [hn] at z; cases z), fun x' e' _ H8 s8 => ?_⟩
            cases e'
            have el : (ofN ns').look x = some ((0 + j : Nat) + 1 : Int) := nmF_at nd6 hj
            rw [el]
            refine ⟨_, rfl, _, rfl, ?_⟩
            rw [decide_eq_true (show ((0 + j : Nat) : Int) + 1 = 1 + (j : Int) by omega)]
            refine iteF ?_
            refine hD ns' _ _ _ _ _ _ H8 (Mid.same ⟨P7, k7.k _ _ l6 (by simp [b1, b2, b3]), nd6, nm6, le6⟩ s8) (s8 _ _ (k7.k _ _ q6 (by simp [n2, n3, n4])))
        by_cases hx : x ∈ ns
        · rw [decide_eq_true hx]
          refine iteF ?_
          obtain ⟨j, hj⟩ := List.getElem?_of_mem hx
          exact go ns j H5 M5.ppl M5.lst M5.nd M5.nm (Nat.le_succ_of_le M5.le) hj (come_old M5.nd hj) (num_old M5.nd hj) (s5' _ _ hqq) kn5.tx _ _ _ _ _ _ fun ns v3 v4 v5 v6 v7 v8 H' M' hq' => ⟨ns, v3, v4, v5, v6, v7, v8, rfl, M', hq', n1, n2, n3, n4⟩
        · rw [decide_eq_false hx]
          refine iteT ?_
          obtain ⟨dx5, hp5⟩ := M5.ppl.ob
          refine ⟨_, rfl, p, dx5, _, rfl, hp5, rfl, _, rfl, d1, d2, _, M5.ppl, kn5, (fun z => by rw [hn] at z; cases z), fun x' e' _ H6 s6 => ?_⟩
          cases e'
          have el : (ofN ns).look x = none := nmF_none hx
          rw [el]
          refine ⟨rfl, _, rfl, iteF ?_⟩
          have M6 := M5.same s6
          refine ⟨_, rfl, .inl ⟨rfl, _, SqL.of M6.lst⟩, _, rfl, nl, _, _, rfl, rfl, M6.lst, by rw [List.length_map, sizeLine_eq]; omega, ?_⟩
          refine go (ns ++ [x]) ns.length _ (M6.ppl.keep (l := [nl]) (Keep.refl.put (by simp)) (by simp [b1.symm]) (by simp [b2.symm]) (by simp [b3.symm])) (by rw [upd_same, List.map_append]; rfl) (nd_snoc M5.nd hx) ?_ ?_ ?_ (come_new hx) (num_new hx) ?_ kn5.tx _ _ _ _ _ _ fun ns v3 v4 v5 v6 v7 v8 H' M' hq' => ⟨ns, v3, v4, v5, v6, v7, v8, rfl, M', hq', n1, n2, n3, n4⟩
          · intro y hy
            rcases List.mem_append.mp hy with hy | hy
            · exact M5.nm y hy
            · rw [List.mem_singleton.mp hy]
              exact kn5.tx
          · rw [List.length_append, List.length_singleton]
            have := M.le
            omega
          · simp
          · rw [upd_ne n1]
            exact s6 _ _ (s5' _ _ hqq)
    · rintro σ H' ⟨ns, v3, v4, v5, v6, v7, v8, rfl, M, hqq, n1, n2, n3, n4⟩
      rw [List.length_map] at M
      have hns : ns.length ≤ 40 := Nat.le_trans M.le hcs
      have h64 : (ofN ns).nu.length < 64 := by
        show (nuF 0 ns).length < 64
        rw [nuF_len]
        omega
      obtain ⟨dx1, hp1⟩ := M.ppl.ob
      have one : ∀ ys : List Int, ys.Perm ((ofN ns).nu.map (·.1)) → ys.Pairwise (· ≤ ·) → ys = (List.range ns.length).map fun i => ((0 + i : Nat) : Int) + 1 := fun ys py sy => by
        have e : (ofN ns).nu.map (·.1) = (List.range ns.length).map fun i => ((0 + i : Nat) : Int) + 1 := nuF_keys 0 ns
        rw [e] at py
        exact PySem.W.ksm_same py sy (rg_rising _)
      refine ⟨_, rfl, p, dx1, _, rfl, hp1, rfl, d1, d2, _, M.ppl, h64, fun ys H2 a1 py sy f2 s2 g2 => ?_⟩
      have M2 := M.same s2
      have ey := one ys py sy
      refine ⟨_, rfl, nl, _, rfl, .inl (SqL.of M2.lst), _, _, rfl, rfl, _, _, rfl, rfl, RgOk.of_le (by decide) (by rw [List.length_map]; omega) (by decide) (by omega), fun a2 ha2 => ?_⟩
      have ne12 : a1 ≠ a2 := ne_of_none g2 ha2
      rw [List.length_map]
      refine ⟨.list (ys.map PyData.int), .list (((List.range ns.length).map fun i => ((0 + i : Nat) : Int) + 1).map PyData.int), .lst (SqL.of (by rw [upd_ne ne12]; exact g2)) (dpAll_ints _), .lst (SqL.of (xs := rgV 1 ((ns.length : Int) + 1)) upd_same) (by rw [rg_ints]; exact dpAll_ints _), shaped_ints _, shaped_ints _, _, rfl, ?_⟩
      rw [← ey, SeqAt.eqv_refl _ (SeqAt.canLay_of_shaped (shaped_ints ys))]
      refine iteF ?_
      have M3 := M2.same (same_new (o := .lst (rgV 1 ((ns.length : Int) + 1))) ha2)
      obtain ⟨dx3, hp3⟩ := M3.ppl.ob
      refine ⟨_, rfl, p, dx3, _, rfl, hp3, rfl, d1, d2, _, M3.ppl, h64, fun zs H4 a4 pz sz f4 s4 g4 => ?_⟩
      have ez := one zs pz sz
      have M4 := M3.same s4
      refine ⟨a4, rfl, ⟨_, SqL.of g4⟩, fun D hD => ?_⟩
      refine lcl_m (K := K) (a := a4) (xs := zs.map V.int) (fun v => match v with | .int n => (((ofN ns).name n).map V.str).getD .non | _ => .non) (SqL.of g4) hD (by rw [List.length_map, ez, List.length_map, List.length_range]; omega) (fun v acc R hv r => ?_) ?_
      · obtain ⟨n, hn, rfl⟩ := List.mem_map.mp hv
        have M5 := M4.same (same_new (o := .lst acc) hD)
        obtain ⟨dx5, hp5⟩ := M5.ppl.ob
        exact ⟨_, rfl, p, dx5, _, rfl, hp5, rfl, _, rfl, d1, d2, _, M5.ppl, r⟩
      · have el : (zs.map V.int).map (fun v => match v with | .int n => (((ofN ns).name n).map V.str).getD .non | _ => .non) = ns.map V.str := by
          rw [ez, List.map_map, List.map_map]
          refine List.ext_getElem? fun j => ?_
          rw [List.getElem?_map, List.getElem?_map]
          by_cases hj : j < ns.length
          · rw [List.getElem?_range hj, List.getElem?_eq_getElem hj]
            show some ((((nuF 0 ns).lookup (((0 + j : Nat) : Int) + 1)).map V.str).getD .non) = some (V.str ns[j])
            rw [nuF_at j hj, List.getElem?_eq_getElem hj]
            rfl
          · rw [List.getElem?_eq_none (by rw [List.length_range]; omega), List.getElem?_eq_none (by omega)]
            rfl
        rw [el]
        have nD : nl ≠ D := ne_of_none M4.lst hD
        have M5 := M4.same (same_new (o := .lst (ns.map V.str)) hD)
        refine ⟨_, rfl, .list (ns.map PyData.str), .list (ns.map PyData.str), .lst (SqL.of upd_same) (dpAll_strs _), .lst (SqL.of M5.lst) (dpAll_strs _), shaped_strs (fun z hz => (M5.nm z hz).ok), shaped_strs (fun z hz => (M5.nm z hz).ok), true, ?_, ?_⟩
        · rw [SeqAt.eqv_refl _ (SeqAt.canLay_of_shaped (shaped_strs (fun z hz => (M5.nm z hz).ok)))]
        · refine ⟨_, rfl, EK, by decide +kernel, .str nil_ok, ⟨d1, d2, _, M5.ppl, ?_, ?_⟩, fun H6 s6 => k H6⟩
          · show (nmF 0 ns).length < 1000
            rw [nmF_len]
            omega
          · show (nuF 0 ns).length < 1000
            rw [nuF_len]
            omega
  · exact h.elim
theorem law_asks (K : PySem.W.Frag) (EK : ErrK K) (H : Hp) (a : Addr) (ns : List Int) (hl : ns.length ≤ 63) (hO : Only H) (hS : SqL K H a (ns.map V.int)) : sp_law K [.ref a] H (fun v _ => v = .bl true) (fun _ _ _ => False) := ⟨EK, ns, hS, hl, fun _ => rfl⟩
end G

set_option Elab.async false
set_option linter.all false
set_option maxRecDepth 100000
set_option maxHeartbeats 4000000

namespace G
open PySem PySem.Spec PyProof.Rows L2 U
def top (i : Nat) : Stmt := PySem.Challenge.pw_forgethall_k11_names_and_numbers.main.body.getD i (.Pass ⟨0, 0, 0, 0⟩)
abbrev s_is_name : Stmt := top 21
abbrev M_is_name : List Str := ["thing", "letter"]
theorem sc_is_name : FnScope M_is_name ["thing"] (defScope s_is_name) := ⟨rfl, rfl, rfl, by decide +kernel, rfl, by decide +kernel, by decide +kernel⟩
abbrev s_People_known : Stmt := inClass (top 22) 2
abbrev M_People_known : List Str := ["self", "name"]
theorem sc_People_known : FnScope M_People_known ["self", "name"] (defScope s_People_known) := ⟨rfl, rfl, rfl, by decide +kernel, rfl, by decide +kernel, by decide +kernel⟩
abbrev s_People_name_of : Stmt := inClass (top 22) 4
abbrev M_People_name_of : List Str := ["self", "number"]
theorem sc_People_name_of : FnScope M_People_name_of ["self", "number"] (defScope s_People_name_of) := ⟨rfl, rfl, rfl, by decide +kernel, rfl, by decide +kernel, by decide +kernel⟩
abbrev s_People_number_of : Stmt := inClass (top 22) 1
abbrev M_People_number_of : List Str := ["self", "name"]
theorem sc_People_number_of : FnScope M_People_number_of ["self", "name"] (defScope s_People_number_of) := ⟨rfl, rfl, rfl, by decide +kernel, rfl, by decide +kernel, by decide +kernel⟩
abbrev s_People_numbers : Stmt := inClass (top 22) 6
abbrev M_People_numbers : List Str := ["self"]
theorem sc_People_numbers : FnScope M_People_numbers ["self"] (defScope s_People_numbers) := ⟨rfl, rfl, rfl, by decide +kernel, rfl, by decide +kernel, by decide +kernel⟩
abbrev s_People___init__ : Stmt := inClass (top 22) 0
abbrev M_People___init__ : List Str := ["self"]
theorem sc_People___init__ : FnScope M_People___init__ ["self"] (defScope s_People___init__) := ⟨rfl, rfl, rfl, by decide +kernel, rfl, by decide +kernel, by decide +kernel⟩
abbrev s__law_is_name : Stmt := top 28
abbrev M__law_is_name : List Str := ["_law_thing_here", "_law_sign"]
theorem sc__law_is_name : FnScope M__law_is_name ["_law_thing_here"] (defScope s__law_is_name) := ⟨rfl, rfl, rfl, by decide +kernel, rfl, by decide +kernel, by decide +kernel⟩
abbrev s_People_cut_off : Stmt := inClass (top 22) 3
abbrev M_People_cut_off : List Str := ["self", "name", "number"]
theorem sc_People_cut_off : FnScope M_People_cut_off ["self", "name"] (defScope s_People_cut_off) := ⟨rfl, rfl, rfl, by decide +kernel, rfl, by decide +kernel, by decide +kernel⟩
abbrev s__law_nobody : Stmt := top 31
abbrev M__law_nobody : List Str := ["_law_people", "_law_thing_here", "_law_good", "e"]
theorem sc__law_nobody : FnScope M__law_nobody ["_law_people", "_law_thing_here"] (defScope s__law_nobody) := ⟨rfl, rfl, rfl, by decide +kernel, rfl, by decide +kernel, by decide +kernel⟩
abbrev s__law_number : Stmt := top 32
abbrev M__law_number : List Str := ["_law_found", "_law_due"]
theorem sc__law_number : FnScope M__law_number ["_law_found", "_law_due"] (defScope s__law_number) := ⟨rfl, rfl, rfl, by decide +kernel, rfl, by decide +kernel, by decide +kernel⟩
abbrev s__law_pot : Stmt := top 25
abbrev M__law_pot : List Str := ["_law_cell_here"]
theorem sc__law_pot : FnScope M__law_pot ["_law_cell_here"] (defScope s__law_pot) := ⟨rfl, rfl, rfl, by decide +kernel, rfl, by decide +kernel, by decide +kernel⟩
abbrev s__law_refused : Stmt := top 30
abbrev M__law_refused : List Str := ["_law_people", "_law_thing_here", "_law_good", "e", "_law_others"]
theorem sc__law_refused : FnScope M__law_refused ["_law_people", "_law_thing_here"] (defScope s__law_refused) := ⟨rfl, rfl, rfl, by decide +kernel, rfl, by decide +kernel, by decide +kernel⟩
abbrev s__law_draw : Stmt := top 26
abbrev M__law_draw : List Str := ["_law_pot_here", "_law_many", "_law_digit"]
theorem sc__law_draw : FnScope M__law_draw ["_law_pot_here", "_law_many"] (defScope s__law_draw) := ⟨rfl, rfl, rfl, by decide +kernel, rfl, by decide +kernel, by decide +kernel⟩
abbrev s__law_word : Stmt := top 27
abbrev M__law_word : List Str := ["_law_pot_here", "_law_k"]
theorem sc__law_word : FnScope M__law_word ["_law_pot_here"] (defScope s__law_word) := ⟨rfl, rfl, rfl, by decide +kernel, rfl, by decide +kernel, by decide +kernel⟩
abbrev s__law_thing : Stmt := top 29
abbrev M__law_thing : List Str := ["_law_pot_here", "_law_word_here", "_law_way", "_law_at", "_law_sign"]
theorem sc__law_thing : FnScope M__law_thing ["_law_pot_here"] (defScope s__law_thing) := ⟨rfl, rfl, rfl, by decide +kernel, rfl, by decide +kernel, by decide +kernel⟩
abbrev s_law : Stmt := top 33
abbrev M_law : List Str := ["_law_script", "_law_people", "_law_names", "_law_cell_here", "_law_thing_here", "_law_good", "_law_found", "_law_due", "_law_k"]
theorem sc_law : FnScope M_law ["_law_script"] (defScope s_law) := ⟨rfl, rfl, rfl, by decide +kernel, rfl, by decide +kernel, by decide +kernel⟩
def df_is_name : He.DefD := ⟨("is_name", none), "is_name", "is_name", defArgs s_is_name, defBody s_is_name, defScope s_is_name, [], []⟩
def df__law_is_name : He.DefD := ⟨("_law_is_name", none), "_law_is_name", "_law_is_name", defArgs s__law_is_name, defBody s__law_is_name, defScope s__law_is_name, [], []⟩
def df__law_nobody : He.DefD := ⟨("_law_nobody", none), "_law_nobody", "_law_nobody", defArgs s__law_nobody, defBody s__law_nobody, defScope s__law_nobody, [], []⟩
def df__law_number : He.DefD := ⟨("_law_number", none), "_law_number", "_law_number", defArgs s__law_number, defBody s__law_number, defScope s__law_number, [], []⟩
def df__law_pot : He.DefD := ⟨("_law_pot", none), "_law_pot", "_law_pot", defArgs s__law_pot, defBody s__law_pot, defScope s__law_pot, [], []⟩
def df__law_refused : He.DefD := ⟨("_law_refused", none), "_law_refused", "_law_refused", defArgs s__law_refused, defBody s__law_refused, defScope s__law_refused, [], []⟩
def df__law_draw : He.DefD := ⟨("_law_draw", none), "_law_draw", "_law_draw", defArgs s__law_draw, defBody s__law_draw, defScope s__law_draw, [], []⟩
def df__law_word : He.DefD := ⟨("_law_word", none), "_law_word", "_law_word", defArgs s__law_word, defBody s__law_word, defScope s__law_word, [], []⟩
def df__law_thing : He.DefD := ⟨("_law_thing", none), "_law_thing", "_law_thing", defArgs s__law_thing, defBody s__law_thing, defScope s__law_thing, [], []⟩
def df_law : He.DefD := ⟨("law", none), "law", "law", defArgs s_law, defBody s_law, defScope s_law, [], []⟩
def df_People___init__ : He.DefD := ⟨("People", some "__init__"), "__init__", "People.__init__", defArgs s_People___init__, defBody s_People___init__, defScope s_People___init__, [], []⟩
def df_People_cut_off : He.DefD := ⟨("People", some "cut_off"), "cut_off", "People.cut_off", defArgs s_People_cut_off, defBody s_People_cut_off, defScope s_People_cut_off, [], []⟩
def df_People_known : He.DefD := ⟨("People", some "known"), "known", "People.known", defArgs s_People_known, defBody s_People_known, defScope s_People_known, [], []⟩
def df_People_name_of : He.DefD := ⟨("People", some "name_of"), "name_of", "People.name_of", defArgs s_People_name_of, defBody s_People_name_of, defScope s_People_name_of, [], []⟩
def df_People_number_of : He.DefD := ⟨("People", some "number_of"), "number_of", "People.number_of", defArgs s_People_number_of, defBody s_People_number_of, defScope s_People_number_of, [], []⟩
def df_People_numbers : He.DefD := ⟨("People", some "numbers"), "numbers", "People.numbers", defArgs s_People_numbers, defBody s_People_numbers, defScope s_People_numbers, [], []⟩
def fa : List He.Fa := [.free "bool", .free "isinstance", .free "len", .free "range", .free "list", .cls "People", .noat "People" "by_name", .free "str", .int "MOST_LETTERS" 8, .str "LETTERS" "abcdefghijklmnopqrstuvwxyz", .free "all", .noat "People" "by_number", .glo "NoName", .exc "NoName", .noat "People" "many", .free "sorted", .glo "HallError", .glo "NoPerson", .glo "NoThing", .glo "NoHold", .exc "NoPerson", .free "int", .free "abs", .free "max", .glo "Answered", .glo "BadKind", .glo "NoAnswer", .glo "NoDay", .glo "NoKind", .glo "NoMatter", .glo "NoRows", .glo "NoTelling", .glo "NoText", .glo "NoWay", .glo "Taken", .free "ValueError", .free "divmod", .glo "is_name", .glo "_law_is_name", .glo "_law_nobody", .glo "_law_number", .glo "_law_pot", .glo "_law_refused", .glo "_law_draw", .glo "_law_word", .glo "_law_thing", .glo "law", .glo "People", .mkr "People", .meth "People" "cut_off", .meth "People" "known", .meth "People" "name_of", .meth "People" "number_of", .meth "People" "numbers"]
def fn : List He.DefD := [df_is_name, df__law_is_name, df__law_nobody, df__law_number, df__law_pot, df__law_refused, df__law_draw, df__law_word, df__law_thing, df_law, df_People___init__, df_People_cut_off, df_People_known, df_People_name_of, df_People_number_of, df_People_numbers]
def ex : PySem.W.Frag → Bool := errB
structure Txt (w : World) (K : PySem.W.Frag) (mg : Str → Option Value) : Prop where
  ex : ∃ h : Heap, K.In h ∧ h.Ns mainGlobals mg ∧ He.SaysX fa fn [] [] ex w h K
section
variable {P : Program} {w : World} {K : PySem.W.Frag} {mg : Str → Option Value} {base : Heap}
theorem Txt.b_bool (T : Txt w K mg) : mg "bool" = none := by
  obtain ⟨h, X, G, c⟩ := T.ex
  exact He.free_ok X G (c.t.d.fact 0 (f := .free "bool") rfl)
theorem Txt.b_isinstance (T : Txt w K mg) : mg "isinstance" = none := by
  obtain ⟨h, X, G, c⟩ := T.ex
  exact He.free_ok X G (c.t.d.fact 1 (f := .free "isinstance") rfl)
theorem Txt.b_len (T : Txt w K mg) : mg "len" = none := by
  obtain ⟨h, X, G, c⟩ := T.ex
  exact He.free_ok X G (c.t.d.fact 2 (f := .free "len") rfl)
theorem Txt.b_range (T : Txt w K mg) : mg "range" = none := by
  obtain ⟨h, X, G, c⟩ := T.ex
  exact He.free_ok X G (c.t.d.fact 3 (f := .free "range") rfl)
theorem Txt.b_list (T : Txt w K mg) : mg "list" = none := by
  obtain ⟨h, X, G, c⟩ := T.ex
  exact He.free_ok X G (c.t.d.fact 4 (f := .free "list") rfl)
theorem Txt.cl_People (T : Txt w K mg) : Cls K (He.ga K "People") := by
  obtain ⟨h, X, G, c⟩ := T.ex
  exact He.cls_ok (c.t.d.fact 5 (f := .cls "People") rfl)
theorem Txt.n_People_by_name (T : Txt w K mg) : NoAttr K (He.ga K "People") "by_name" := by
  obtain ⟨h, X, G, c⟩ := T.ex
  exact He.noat_ok (c.t.d.fact 6 (f := .noat "People" "by_name") rfl)
theorem Txt.b_str (T : Txt w K mg) : mg "str" = none := by
  obtain ⟨h, X, G, c⟩ := T.ex
  exact He.free_ok X G (c.t.d.fact 7 (f := .free "str") rfl)
theorem Txt.v_MOST_LETTERS (T : Txt w K mg) : ∃ t, mg "MOST_LETTERS" = some (.int 8 t) := by
  obtain ⟨h, X, G, c⟩ := T.ex
  exact He.int_ok X G (c.t.d.fact 8 (f := .int "MOST_LETTERS" 8) rfl)
theorem Txt.v_LETTERS (T : Txt w K mg) : ∃ t, mg "LETTERS" = some (.str "abcdefghijklmnopqrstuvwxyz" t) := by
  obtain ⟨h, X, G, c⟩ := T.ex
  exact He.str_ok X G (c.t.d.fact 9 (f := .str "LETTERS" "abcdefghijklmnopqrstuvwxyz") rfl)
theorem Txt.b_all (T : Txt w K mg) : mg "all" = none := by
  obtain ⟨h, X, G, c⟩ := T.ex
  exact He.free_ok X G (c.t.d.fact 10 (f := .free "all") rfl)
theorem Txt.n_People_by_number (T : Txt w K mg) : NoAttr K (He.ga K "People") "by_number" := by
  obtain ⟨h, X, G, c⟩ := T.ex
  exact He.noat_ok (c.t.d.fact 11 (f := .noat "People" "by_number") rfl)
theorem Txt.g_NoName (T : Txt w K mg) : mg "NoName" = some (.ref (He.ga K "NoName")) := by
  obtain ⟨h, X, G, c⟩ := T.ex
  exact He.glo_ok X G (c.t.d.fact 12 (f := .glo "NoName") rfl)
theorem Txt.e_NoName (T : Txt w K mg) : ErrC K (He.ga K "NoName") := by
  obtain ⟨h, X, G, c⟩ := T.ex
  exact (fun z => ⟨z.1, z.2.1, z.2.2.1, z.2.2.2⟩ : _ → ErrC K (He.ga K "NoName")) (He.exc_ok (c.t.d.fact 13 (f := .exc "NoName") rfl))
theorem Txt.n_People_many (T : Txt w K mg) : NoAttr K (He.ga K "People") "many" := by
  obtain ⟨h, X, G, c⟩ := T.ex
  exact He.noat_ok (c.t.d.fact 14 (f := .noat "People" "many") rfl)
theorem Txt.b_sorted (T : Txt w K mg) : mg "sorted" = none := by
  obtain ⟨h, X, G, c⟩ := T.ex
  exact He.free_ok X G (c.t.d.fact 15 (f := .free "sorted") rfl)
theorem Txt.g_HallError (T : Txt w K mg) : mg "HallError" = some (.ref (He.ga K "HallError")) := by
  obtain ⟨h, X, G, c⟩ := T.ex
  exact He.glo_ok X G (c.t.d.fact 16 (f := .glo "HallError") rfl)
theorem Txt.g_NoPerson (T : Txt w K mg) : mg "NoPerson" = some (.ref (He.ga K "NoPerson")) := by
  obtain ⟨h, X, G, c⟩ := T.ex
  exact He.glo_ok X G (c.t.d.fact 17 (f := .glo "NoPerson") rfl)
theorem Txt.g_NoThing (T : Txt w K mg) : mg "NoThing" = some (.ref (He.ga K "NoThing")) := by
  obtain ⟨h, X, G, c⟩ := T.ex
  exact He.glo_ok X G (c.t.d.fact 18 (f := .glo "NoThing") rfl)
theorem Txt.g_NoHold (T : Txt w K mg) : mg "NoHold" = some (.ref (He.ga K "NoHold")) := by
  obtain ⟨h, X, G, c⟩ := T.ex
  exact He.glo_ok X G (c.t.d.fact 19 (f := .glo "NoHold") rfl)
theorem Txt.e_NoPerson (T : Txt w K mg) : ErrC K (He.ga K "NoPerson") := by
  obtain ⟨h, X, G, c⟩ := T.ex
  exact (fun z => ⟨z.1, z.2.1, z.2.2.1, z.2.2.2⟩ : _ → ErrC K (He.ga K "NoPerson")) (He.exc_ok (c.t.d.fact 20 (f := .exc "NoPerson") rfl))
theorem Txt.b_int (T : Txt w K mg) : mg "int" = none := by
  obtain ⟨h, X, G, c⟩ := T.ex
  exact He.free_ok X G (c.t.d.fact 21 (f := .free "int") rfl)
theorem Txt.b_abs (T : Txt w K mg) : mg "abs" = none := by
  obtain ⟨h, X, G, c⟩ := T.ex
  exact He.free_ok X G (c.t.d.fact 22 (f := .free "abs") rfl)
theorem Txt.b_max (T : Txt w K mg) : mg "max" = none := by
  obtain ⟨h, X, G, c⟩ := T.ex
  exact He.free_ok X G (c.t.d.fact 23 (f := .free "max") rfl)
theorem Txt.g_Answered (T : Txt w K mg) : mg "Answered" = some (.ref (He.ga K "Answered")) := by
  obtain ⟨h, X, G, c⟩ := T.ex
  exact He.glo_ok X G (c.t.d.fact 24 (f := .glo "Answered") rfl)
theorem Txt.g_BadKind (T : Txt w K mg) : mg "BadKind" = some (.ref (He.ga K "BadKind")) := by
  obtain ⟨h, X, G, c⟩ := T.ex
  exact He.glo_ok X G (c.t.d.fact 25 (f := .glo "BadKind") rfl)
theorem Txt.g_NoAnswer (T : Txt w K mg) : mg "NoAnswer" = some (.ref (He.ga K "NoAnswer")) := by
  obtain ⟨h, X, G, c⟩ := T.ex
  exact He.glo_ok X G (c.t.d.fact 26 (f := .glo "NoAnswer") rfl)
theorem Txt.g_NoDay (T : Txt w K mg) : mg "NoDay" = some (.ref (He.ga K "NoDay")) := by
  obtain ⟨h, X, G, c⟩ := T.ex
  exact He.glo_ok X G (c.t.d.fact 27 (f := .glo "NoDay") rfl)
theorem Txt.g_NoKind (T : Txt w K mg) : mg "NoKind" = some (.ref (He.ga K "NoKind")) := by
  obtain ⟨h, X, G, c⟩ := T.ex
  exact He.glo_ok X G (c.t.d.fact 28 (f := .glo "NoKind") rfl)
theorem Txt.g_NoMatter (T : Txt w K mg) : mg "NoMatter" = some (.ref (He.ga K "NoMatter")) := by
  obtain ⟨h, X, G, c⟩ := T.ex
  exact He.glo_ok X G (c.t.d.fact 29 (f := .glo "NoMatter") rfl)
theorem Txt.g_NoRows (T : Txt w K mg) : mg "NoRows" = some (.ref (He.ga K "NoRows")) := by
  obtain ⟨h, X, G, c⟩ := T.ex
  exact He.glo_ok X G (c.t.d.fact 30 (f := .glo "NoRows") rfl)
theorem Txt.g_NoTelling (T : Txt w K mg) : mg "NoTelling" = some (.ref (He.ga K "NoTelling")) := by
  obtain ⟨h, X, G, c⟩ := T.ex
  exact He.glo_ok X G (c.t.d.fact 31 (f := .glo "NoTelling") rfl)
theorem Txt.g_NoText (T : Txt w K mg) : mg "NoText" = some (.ref (He.ga K "NoText")) := by
  obtain ⟨h, X, G, c⟩ := T.ex
  exact He.glo_ok X G (c.t.d.fact 32 (f := .glo "NoText") rfl)
theorem Txt.g_NoWay (T : Txt w K mg) : mg "NoWay" = some (.ref (He.ga K "NoWay")) := by
  obtain ⟨h, X, G, c⟩ := T.ex
  exact He.glo_ok X G (c.t.d.fact 33 (f := .glo "NoWay") rfl)
theorem Txt.g_Taken (T : Txt w K mg) : mg "Taken" = some (.ref (He.ga K "Taken")) := by
  obtain ⟨h, X, G, c⟩ := T.ex
  exact He.glo_ok X G (c.t.d.fact 34 (f := .glo "Taken") rfl)
theorem Txt.b_ValueError (T : Txt w K mg) : mg "ValueError" = none := by
  obtain ⟨h, X, G, c⟩ := T.ex
  exact He.free_ok X G (c.t.d.fact 35 (f := .free "ValueError") rfl)
theorem Txt.b_divmod (T : Txt w K mg) : mg "divmod" = none := by
  obtain ⟨h, X, G, c⟩ := T.ex
  exact He.free_ok X G (c.t.d.fact 36 (f := .free "divmod") rfl)
theorem Txt.g_is_name (T : Txt w K mg) : mg "is_name" = some (.ref (He.ga K "is_name")) := by
  obtain ⟨h, X, G, c⟩ := T.ex
  exact He.glo_ok X G (c.t.d.fact 37 (f := .glo "is_name") rfl)
theorem Txt.g__law_is_name (T : Txt w K mg) : mg "_law_is_name" = some (.ref (He.ga K "_law_is_name")) := by
  obtain ⟨h, X, G, c⟩ := T.ex
  exact He.glo_ok X G (c.t.d.fact 38 (f := .glo "_law_is_name") rfl)
theorem Txt.g__law_nobody (T : Txt w K mg) : mg "_law_nobody" = some (.ref (He.ga K "_law_nobody")) := by
  obtain ⟨h, X, G, c⟩ := T.ex
  exact He.glo_ok X G (c.t.d.fact 39 (f := .glo "_law_nobody") rfl)
theorem Txt.g__law_number (T : Txt w K mg) : mg "_law_number" = some (.ref (He.ga K "_law_number")) := by
  obtain ⟨h, X, G, c⟩ := T.ex
  exact He.glo_ok X G (c.t.d.fact 40 (f := .glo "_law_number") rfl)
theorem Txt.g__law_pot (T : Txt w K mg) : mg "_law_pot" = some (.ref (He.ga K "_law_pot")) := by
  obtain ⟨h, X, G, c⟩ := T.ex
  exact He.glo_ok X G (c.t.d.fact 41 (f := .glo "_law_pot") rfl)
theorem Txt.g__law_refused (T : Txt w K mg) : mg "_law_refused" = some (.ref (He.ga K "_law_refused")) := by
  obtain ⟨h, X, G, c⟩ := T.ex
  exact He.glo_ok X G (c.t.d.fact 42 (f := .glo "_law_refused") rfl)
theorem Txt.g__law_draw (T : Txt w K mg) : mg "_law_draw" = some (.ref (He.ga K "_law_draw")) := by
  obtain ⟨h, X, G, c⟩ := T.ex
  exact He.glo_ok X G (c.t.d.fact 43 (f := .glo "_law_draw") rfl)
theorem Txt.g__law_word (T : Txt w K mg) : mg "_law_word" = some (.ref (He.ga K "_law_word")) := by
  obtain ⟨h, X, G, c⟩ := T.ex
  exact He.glo_ok X G (c.t.d.fact 44 (f := .glo "_law_word") rfl)
theorem Txt.g__law_thing (T : Txt w K mg) : mg "_law_thing" = some (.ref (He.ga K "_law_thing")) := by
  obtain ⟨h, X, G, c⟩ := T.ex
  exact He.glo_ok X G (c.t.d.fact 45 (f := .glo "_law_thing") rfl)
theorem Txt.g_law (T : Txt w K mg) : mg "law" = some (.ref (He.ga K "law")) := by
  obtain ⟨h, X, G, c⟩ := T.ex
  exact He.glo_ok X G (c.t.d.fact 46 (f := .glo "law") rfl)
theorem Txt.g_People (T : Txt w K mg) : mg "People" = some (.ref (He.ga K "People")) := by
  obtain ⟨h, X, G, c⟩ := T.ex
  exact He.glo_ok X G (c.t.d.fact 47 (f := .glo "People") rfl)
theorem Txt.mk_People (T : Txt w K mg) : Mk K (He.ga K "People") (He.ma K (He.ga K "People") "__init__") := by
  obtain ⟨h, X, G, c⟩ := T.ex
  exact He.mkr_ok (c.t.d.fact 48 (f := .mkr "People") rfl)
theorem Txt.m_People_cut_off (T : Txt w K mg) : Meth K (He.ga K "People") "cut_off" (He.ma K (He.ga K "People") "cut_off") := by
  obtain ⟨h, X, G, c⟩ := T.ex
  exact He.meth_ok (c.t.d.fact 49 (f := .meth "People" "cut_off") rfl)
theorem Txt.m_People_known (T : Txt w K mg) : Meth K (He.ga K "People") "known" (He.ma K (He.ga K "People") "known") := by
  obtain ⟨h, X, G, c⟩ := T.ex
  exact He.meth_ok (c.t.d.fact 50 (f := .meth "People" "known") rfl)
theorem Txt.m_People_name_of (T : Txt w K mg) : Meth K (He.ga K "People") "name_of" (He.ma K (He.ga K "People") "name_of") := by
  obtain ⟨h, X, G, c⟩ := T.ex
  exact He.meth_ok (c.t.d.fact 51 (f := .meth "People" "name_of") rfl)
theorem Txt.m_People_number_of (T : Txt w K mg) : Meth K (He.ga K "People") "number_of" (He.ma K (He.ga K "People") "number_of") := by
  obtain ⟨h, X, G, c⟩ := T.ex
  exact He.meth_ok (c.t.d.fact 52 (f := .meth "People" "number_of") rfl)
theorem Txt.m_People_numbers (T : Txt w K mg) : Meth K (He.ga K "People") "numbers" (He.ma K (He.ga K "People") "numbers") := by
  obtain ⟨h, X, G, c⟩ := T.ex
  exact He.meth_ok (c.t.d.fact 53 (f := .meth "People" "numbers") rfl)
theorem Txt.dd_is_name (T : Txt w K mg) : ∃ fd, FunD K "is_name" "is_name" (defArgs s_is_name) (defBody s_is_name) (defScope s_is_name) [] [] (He.fAd K ("is_name", none)) fd := by
  obtain ⟨h, X, G, c⟩ := T.ex
  exact c.t.d.def_ 0 (d := df_is_name) rfl
theorem Txt.dd__law_is_name (T : Txt w K mg) : ∃ fd, FunD K "_law_is_name" "_law_is_name" (defArgs s__law_is_name) (defBody s__law_is_name) (defScope s__law_is_name) [] [] (He.fAd K ("_law_is_name", none)) fd := by
  obtain ⟨h, X, G, c⟩ := T.ex
  exact c.t.d.def_ 1 (d := df__law_is_name) rfl
theorem Txt.dd__law_nobody (T : Txt w K mg) : ∃ fd, FunD K "_law_nobody" "_law_nobody" (defArgs s__law_nobody) (defBody s__law_nobody) (defScope s__law_nobody) [] [] (He.fAd K ("_law_nobody", none)) fd := by
  obtain ⟨h, X, G, c⟩ := T.ex
  exact c.t.d.def_ 2 (d := df__law_nobody) rfl
theorem Txt.dd__law_number (T : Txt w K mg) : ∃ fd, FunD K "_law_number" "_law_number" (defArgs s__law_number) (defBody s__law_number) (defScope s__law_number) [] [] (He.fAd K ("_law_number", none)) fd := by
  obtain ⟨h, X, G, c⟩ := T.ex
  exact c.t.d.def_ 3 (d := df__law_number) rfl
theorem Txt.dd__law_pot (T : Txt w K mg) : ∃ fd, FunD K "_law_pot" "_law_pot" (defArgs s__law_pot) (defBody s__law_pot) (defScope s__law_pot) [] [] (He.fAd K ("_law_pot", none)) fd := by
  obtain ⟨h, X, G, c⟩ := T.ex
  exact c.t.d.def_ 4 (d := df__law_pot) rfl
theorem Txt.dd__law_refused (T : Txt w K mg) : ∃ fd, FunD K "_law_refused" "_law_refused" (defArgs s__law_refused) (defBody s__law_refused) (defScope s__law_refused) [] [] (He.fAd K ("_law_refused", none)) fd := by
  obtain ⟨h, X, G, c⟩ := T.ex
  exact c.t.d.def_ 5 (d := df__law_refused) rfl
theorem Txt.dd__law_draw (T : Txt w K mg) : ∃ fd, FunD K "_law_draw" "_law_draw" (defArgs s__law_draw) (defBody s__law_draw) (defScope s__law_draw) [] [] (He.fAd K ("_law_draw", none)) fd := by
  obtain ⟨h, X, G, c⟩ := T.ex
  exact c.t.d.def_ 6 (d := df__law_draw) rfl
theorem Txt.dd__law_word (T : Txt w K mg) : ∃ fd, FunD K "_law_word" "_law_word" (defArgs s__law_word) (defBody s__law_word) (defScope s__law_word) [] [] (He.fAd K ("_law_word", none)) fd := by
  obtain ⟨h, X, G, c⟩ := T.ex
  exact c.t.d.def_ 7 (d := df__law_word) rfl
theorem Txt.dd__law_thing (T : Txt w K mg) : ∃ fd, FunD K "_law_thing" "_law_thing" (defArgs s__law_thing) (defBody s__law_thing) (defScope s__law_thing) [] [] (He.fAd K ("_law_thing", none)) fd := by
  obtain ⟨h, X, G, c⟩ := T.ex
  exact c.t.d.def_ 8 (d := df__law_thing) rfl
theorem Txt.dd_law (T : Txt w K mg) : ∃ fd, FunD K "law" "law" (defArgs s_law) (defBody s_law) (defScope s_law) [] [] (He.fAd K ("law", none)) fd := by
  obtain ⟨h, X, G, c⟩ := T.ex
  exact c.t.d.def_ 9 (d := df_law) rfl
theorem Txt.dd_People___init__ (T : Txt w K mg) : ∃ fd, FunD K "__init__" "People.__init__" (defArgs s_People___init__) (defBody s_People___init__) (defScope s_People___init__) [] [] (He.fAd K ("People", some "__init__")) fd := by
  obtain ⟨h, X, G, c⟩ := T.ex
  exact c.t.d.def_ 10 (d := df_People___init__) rfl
theorem Txt.dd_People_cut_off (T : Txt w K mg) : ∃ fd, FunD K "cut_off" "People.cut_off" (defArgs s_People_cut_off) (defBody s_People_cut_off) (defScope s_People_cut_off) [] [] (He.fAd K ("People", some "cut_off")) fd := by
  obtain ⟨h, X, G, c⟩ := T.ex
  exact c.t.d.def_ 11 (d := df_People_cut_off) rfl
theorem Txt.dd_People_known (T : Txt w K mg) : ∃ fd, FunD K "known" "People.known" (defArgs s_People_known) (defBody s_People_known) (defScope s_People_known) [] [] (He.fAd K ("People", some "known")) fd := by
  obtain ⟨h, X, G, c⟩ := T.ex
  exact c.t.d.def_ 12 (d := df_People_known) rfl
theorem Txt.dd_People_name_of (T : Txt w K mg) : ∃ fd, FunD K "name_of" "People.name_of" (defArgs s_People_name_of) (defBody s_People_name_of) (defScope s_People_name_of) [] [] (He.fAd K ("People", some "name_of")) fd := by
  obtain ⟨h, X, G, c⟩ := T.ex
  exact c.t.d.def_ 13 (d := df_People_name_of) rfl
theorem Txt.dd_People_number_of (T : Txt w K mg) : ∃ fd, FunD K "number_of" "People.number_of" (defArgs s_People_number_of) (defBody s_People_number_of) (defScope s_People_number_of) [] [] (He.fAd K ("People", some "number_of")) fd := by
  obtain ⟨h, X, G, c⟩ := T.ex
  exact c.t.d.def_ 14 (d := df_People_number_of) rfl
theorem Txt.dd_People_numbers (T : Txt w K mg) : ∃ fd, FunD K "numbers" "People.numbers" (defArgs s_People_numbers) (defBody s_People_numbers) (defScope s_People_numbers) [] [] (He.fAd K ("People", some "numbers")) fd := by
  obtain ⟨h, X, G, c⟩ := T.ex
  exact c.t.d.def_ 15 (d := df_People_numbers) rfl
theorem len_is_name (K : PySem.W.Frag) : ∀ vs H Q E, sp_is_name K vs H Q E → vs.length = 1 := by
  intro vs H Q E h
  unfold sp_is_name at h
  split at h <;> first | rfl | exact h.elim
theorem len_People_known (K : PySem.W.Frag) : ∀ vs H Q E, sp_People_known K vs H Q E → vs.length = 2 := by
  intro vs H Q E h
  unfold sp_People_known at h
  split at h <;> first | rfl | exact h.elim
theorem len_People_name_of (K : PySem.W.Frag) : ∀ vs H Q E, sp_People_name_of K vs H Q E → vs.length = 2 := by
  intro vs H Q E h
  unfold sp_People_name_of at h
  split at h <;> first | rfl | exact h.elim
theorem len_People_number_of (K : PySem.W.Frag) : ∀ vs H Q E, sp_People_number_of K vs H Q E → vs.length = 2 := by
  intro vs H Q E h
  unfold sp_People_number_of at h
  split at h <;> first | rfl | exact h.elim
theorem len_People_numbers (K : PySem.W.Frag) : ∀ vs H Q E, sp_People_numbers K vs H Q E → vs.length = 1 := by
  intro vs H Q E h
  unfold sp_People_numbers at h
  split at h <;> first | rfl | exact h.elim
theorem len_People___init__ (K : PySem.W.Frag) : ∀ vs H Q E, sp_People___init__ K vs H Q E → vs.length = 1 := by
  intro vs H Q E h
  unfold sp_People___init__ at h
  split at h <;> first | rfl | exact h.elim
theorem len__law_is_name (K : PySem.W.Frag) : ∀ vs H Q E, sp__law_is_name K vs H Q E → vs.length = 1 := by
  intro vs H Q E h
  unfold sp__law_is_name at h
  split at h <;> first | rfl | exact h.elim
theorem len_People_cut_off (K : PySem.W.Frag) : ∀ vs H Q E, sp_People_cut_off K vs H Q E → vs.length = 2 := by
  intro vs H Q E h
  unfold sp_People_cut_off at h
  split at h <;> first | rfl | exact h.elim
theorem len__law_nobody (K : PySem.W.Frag) : ∀ vs H Q E, sp__law_nobody K vs H Q E → vs.length = 2 := by
  intro vs H Q E h
  unfold sp__law_nobody at h
  split at h <;> first | rfl | exact h.elim
theorem len__law_number (K : PySem.W.Frag) : ∀ vs H Q E, sp__law_number K vs H Q E → vs.length = 2 := by
  intro vs H Q E h
  unfold sp__law_number at h
  split at h <;> first | rfl | exact h.elim
theorem len__law_pot (K : PySem.W.Frag) : ∀ vs H Q E, sp__law_pot K vs H Q E → vs.length = 1 := by
  intro vs H Q E h
  unfold sp__law_pot at h
  split at h <;> first | rfl | exact h.elim
theorem len__law_refused (K : PySem.W.Frag) : ∀ vs H Q E, sp__law_refused K vs H Q E → vs.length = 2 := by
  intro vs H Q E h
  unfold sp__law_refused at h
  split at h <;> first | rfl | exact h.elim
theorem len__law_draw (K : PySem.W.Frag) : ∀ vs H Q E, sp__law_draw K vs H Q E → vs.length = 2 := by
  intro vs H Q E h
  unfold sp__law_draw at h
  split at h <;> first | rfl | exact h.elim
theorem len__law_word (K : PySem.W.Frag) : ∀ vs H Q E, sp__law_word K vs H Q E → vs.length = 1 := by
  intro vs H Q E h
  unfold sp__law_word at h
  split at h <;> first | rfl | exact h.elim
theorem len__law_thing (K : PySem.W.Frag) : ∀ vs H Q E, sp__law_thing K vs H Q E → vs.length = 1 := by
  intro vs H Q E h
  unfold sp__law_thing at h
  split at h <;> first | rfl | exact h.elim
theorem len_law (K : PySem.W.Frag) : ∀ vs H Q E, sp_law K vs H Q E → vs.length = 1 := by
  intro vs H Q E h
  unfold sp_law at h
  split at h <;> first | rfl | exact h.elim
theorem body_is_name (T : Txt w K mg) {cdv : Value} {A : Around} {outer : List Env} {s : Shared} {H : Hp} {E : XK} (hr : Room 0 (A.deeper (envOfC "is_name" (defScope s_is_name) s.heap.objs.size (He.fAd K ("is_name", none)) cdv))) : PSs (cxOf CX0 P w K mg base M_is_name "is_name" (defScope s_is_name) (He.fAd K ("is_name", none)) cdv A outer s H E) (defBody s_is_name) (t_is_name K) := by
  
  refine PSs.nox ?_
  exact (pss_cons (ps_if (PW.pt (pw_or (pt_not (pt_val (pe_callB call_isi (by rfl) (T.b_isinstance) (by decide +kernel) (pa_cons (pv 0) (pa_cons (pe_ty (by rfl) (T.b_str) (by decide +kernel)) pa_nil))))) (pw_or (pt_cmpR op_eq (pv 0) pe_str (nomark _)) (pw_or1 (pt_cmpR op_gt (pe_callB call_len_str (by rfl) (T.b_len) (by decide +kernel) (pa_cons (pv 0) pa_nil)) (pe_gi (by rfl) T.v_MOST_LETTERS) (nomark _)))))) (pss_one (ps_ret pe_bl)) pss_nil)
  (pss_one (ps_ret (pe_callB (cr_all rfl) (by rfl) (T.b_all) (by decide +kernel) (pa_cons (pe_lc (own := [("letter", 1)]) (g := (gName 1)) (tt := tYes) rfl sc_is_name.nd (pi_str (pv 0)) (blkOk_by (N := M_is_name) (sc := defScope s_is_name) (own := [("letter", 1)]) (by decide +kernel)) (fun _ _ _ _ _ => (pg_name (i := 1) sc_is_name.nd rfl (by first | exact Or.inl rfl | exact Or.inr rfl))) (fun _ _ _ _ _ => pts_nil) (fun _ _ _ _ _ => (pe_cmpR op_in_sign (pv 1) (pe_gs (by rfl) T.v_LETTERS) (by rfl)))) pa_nil)))))
theorem c_is_name (T : Txt w K mg) : U.Cal P w K mg base CX0 1 "is_name" (sp_is_name K) [] := by
  obtain ⟨fd, F⟩ := T.dd_is_name
  have hb : Binds K fd ["thing"] [] := F.bindsN (ps := ["thing"]) (fun _ _ _ _ _ _ us hl => match us, hl with | [_], _ => rfl)
  exact ⟨⟨_, fd, _, [], F.ok (CX := CX0) sc_is_name (len_is_name K) (fun cdv A outer s H vs Q E hr h => ⟨t_is_name K, body_is_name T hr, pure_is_name vs H Q E h⟩), T.g_is_name, F.kp, hb, .nil⟩⟩
theorem body_People_known (T : Txt w K mg) {cdv : Value} {A : Around} {outer : List Env} {s : Shared} {H : Hp} {E : XK} (hr : Room 1 (A.deeper (envOfC "People.known" (defScope s_People_known) s.heap.objs.size (He.fAd K ("People", some "known")) cdv))) : PSs (cxOf CX0 P w K mg base M_People_known "People.known" (defScope s_People_known) (He.fAd K ("People", some "known")) cdv A outer s H E) (defBody s_People_known) (t_People_known K) := by
  have c_is_name := c_is_name (P := P) (base := base) T
  refine PSs.nox ?_
  exact (pss_cons (ps_if (pt_not (pt_val (U.pe_c (E := ES0) c_is_name hr (by decide) ps0 (by rfl) (pa_cons (pv 1) pa_nil)))) (pss_one (ps_ret pe_non)) pss_nil)
  (pss_one (ps_ret (pe_dget1 (hu_of hr) (pe_fd T.cl_People T.n_People_by_name (pv 0)) (pv 1) ⟨by rfl, by rfl, by rfl, by rfl⟩))))
theorem m_People_known (T : Txt w K mg) : U.Met P w K mg base CX0 2 (He.ga K "People") "known" (sp_People_known K) [] := by
  obtain ⟨fd, F⟩ := T.dd_People_known
  have hb : Binds K fd ["self", "name"] [] := F.bindsN (ps := ["self", "name"]) (fun _ _ _ _ _ _ us hl => match us, hl with | [_, _], _ => rfl)
  exact ⟨⟨_, fd, _, [], T.cl_People, T.m_People_known, F.ok (CX := CX0) sc_People_known (len_People_known K) (fun cdv A outer s H vs Q E hr h => ⟨t_People_known K, body_People_known T hr, pure_People_known vs H Q E h⟩), hb, .nil⟩⟩
theorem body_People_name_of (T : Txt w K mg) {cdv : Value} {A : Around} {outer : List Env} {s : Shared} {H : Hp} {E : XK} (hr : Room 0 (A.deeper (envOfC "People.name_of" (defScope s_People_name_of) s.heap.objs.size (He.fAd K ("People", some "name_of")) cdv))) : PSs (cxOf CX0 P w K mg base M_People_name_of "People.name_of" (defScope s_People_name_of) (He.fAd K ("People", some "name_of")) cdv A outer s H E) (defBody s_People_name_of) (t_People_name_of K) := by
  
  refine PSs.nox ?_
  exact (pss_one (ps_ret (pe_dget1 (hu_of hr) (pe_fd T.cl_People T.n_People_by_number (pv 0)) (pv 1) ⟨by rfl, by rfl, by rfl, by rfl⟩)))
theorem m_People_name_of (T : Txt w K mg) : U.Met P w K mg base CX0 1 (He.ga K "People") "name_of" (sp_People_name_of K) [] := by
  obtain ⟨fd, F⟩ := T.dd_People_name_of
  have hb : Binds K fd ["self", "number"] [] := F.bindsN (ps := ["self", "number"]) (fun _ _ _ _ _ _ us hl => match us, hl with | [_, _], _ => rfl)
  exact ⟨⟨_, fd, _, [], T.cl_People, T.m_People_name_of, F.ok (CX := CX0) sc_People_name_of (len_People_name_of K) (fun cdv A outer s H vs Q E hr h => ⟨t_People_name_of K, body_People_name_of T hr, pure_People_name_of vs H Q E h⟩), hb, .nil⟩⟩
theorem body_People_number_of (T : Txt w K mg) {cdv : Value} {A : Around} {outer : List Env} {s : Shared} {H : Hp} {E : XK} (hr : Room 1 (A.deeper (envOfC "People.number_of" (defScope s_People_number_of) s.heap.objs.size (He.fAd K ("People", some "number_of")) cdv))) : PSs (cxOf (L2.CX P w) P w K mg base M_People_number_of "People.number_of" (defScope s_People_number_of) (He.fAd K ("People", some "number_of")) cdv A outer s H E) (defBody s_People_number_of) (t_People_number_of K (fun cls d _ H => E cls d H)) := by
  have c_is_name := c_is_name (P := P) (base := base) T
  have tk : Takes (cxOf (L2.CX P w) P w K mg base M_People_number_of "People.number_of" (defScope s_People_number_of) (He.fAd K ("People", some "number_of")) cdv A outer s H E) (fun cls d _ H => E cls d H) := takes_of rfl rfl rfl rfl
  exact (pss_cons (ps_if (pt_not (pt_val (U.pe_c (E := ES0) c_is_name hr (by decide) ps0 (by rfl) (pa_cons (pv 1) pa_nil)))) (pss_one (ps_rs rfl tk T.e_NoName T.g_NoName (by rfl))) pss_nil)
  (pss_cons (ps_if (pt_cmp (pc_dnotin (hu_of hr) (pv 1) (pe_fd T.cl_People T.n_People_by_name (pv 0))) (by rfl)) (pss_cons (ps_fdadd T.cl_People T.n_People_many (pv 0) pe_int)
  (pss_cons (ps_dput (hu_of hr) (pe_fd T.cl_People T.n_People_by_name (pv 0)) (pv 1) (pe_fd T.cl_People T.n_People_many (pv 0)) rfl)
  (pss_one (ps_dput (hu_of hr) (pe_fd T.cl_People T.n_People_by_number (pv 0)) (pe_fd T.cl_People T.n_People_many (pv 0)) (pv 1) rfl)))) pss_nil)
  (pss_one (ps_ret (pe_dget (hu_of hr) (pe_fd T.cl_People T.n_People_by_name (pv 0)) (pv 1) (fun _ _ => rfl))))))
theorem m_People_number_of (T : Txt w K mg) : U.Met P w K mg base (L2.CX P w) 2 (He.ga K "People") "number_of" (sp_People_number_of K) [] := by
  obtain ⟨fd, F⟩ := T.dd_People_number_of
  have hb : Binds K fd ["self", "name"] [] := F.bindsN (ps := ["self", "name"]) (fun _ _ _ _ _ _ us hl => match us, hl with | [_, _], _ => rfl)
  exact ⟨⟨_, fd, _, [], T.cl_People, T.m_People_number_of, F.ok (CX := (L2.CX P w)) sc_People_number_of (len_People_number_of K) (fun cdv A outer s H vs Q E hr h => ⟨t_People_number_of K (fun cls d _ H => E cls d H), body_People_number_of T hr, pure_People_number_of vs H Q E h⟩), hb, .nil⟩⟩
theorem body_People_numbers (T : Txt w K mg) {cdv : Value} {A : Around} {outer : List Env} {s : Shared} {H : Hp} {E : XK} (hr : Room 0 (A.deeper (envOfC "People.numbers" (defScope s_People_numbers) s.heap.objs.size (He.fAd K ("People", some "numbers")) cdv))) : PSs (cxOf CX0 P w K mg base M_People_numbers "People.numbers" (defScope s_People_numbers) (He.fAd K ("People", some "numbers")) cdv A outer s H E) (defBody s_People_numbers) (t_People_numbers K) := by
  
  refine PSs.nox ?_
  exact (pss_one (ps_ret (pe_callB (call_sortedKV rfl) (by rfl) (T.b_sorted) (by decide +kernel) (pa_cons (pe_keysV (pe_fd T.cl_People T.n_People_by_number (pv 0))) pa_nil))))
theorem m_People_numbers (T : Txt w K mg) : U.Met P w K mg base CX0 1 (He.ga K "People") "numbers" (sp_People_numbers K) [] := by
  obtain ⟨fd, F⟩ := T.dd_People_numbers
  have hb : Binds K fd ["self"] [] := F.bindsN (ps := ["self"]) (fun _ _ _ _ _ _ us hl => match us, hl with | [_], _ => rfl)
  exact ⟨⟨_, fd, _, [], T.cl_People, T.m_People_numbers, F.ok (CX := CX0) sc_People_numbers (len_People_numbers K) (fun cdv A outer s H vs Q E hr h => ⟨t_People_numbers K, body_People_numbers T hr, pure_People_numbers vs H Q E h⟩), hb, .nil⟩⟩
theorem body_People___init__ (T : Txt w K mg) {cdv : Value} {A : Around} {outer : List Env} {s : Shared} {H : Hp} {E : XK} (hr : Room 0 (A.deeper (envOfC "People.__init__" (defScope s_People___init__) s.heap.objs.size (He.fAd K ("People", some "__init__")) cdv))) : PSs (cxOf CX0 P w K mg base M_People___init__ "People.__init__" (defScope s_People___init__) (He.fAd K ("People", some "__init__")) cdv A outer s H E) (defBody s_People___init__) (t_People___init__ K) := by
  
  refine PSs.nox ?_
  exact (pss_cons (ps_fd T.cl_People T.n_People_by_name (pv 0) (pe_dnewK))
  (pss_cons (ps_fd T.cl_People T.n_People_by_number (pv 0) (pe_dnewK))
  (pss_one (ps_fd T.cl_People T.n_People_many (pv 0) pe_int))))
theorem k_People (T : Txt w K mg) : U.Mak P w K mg base CX0 1 "People" (He.ga K "People") (sp_People___init__ K) [] := by
  obtain ⟨fd, F⟩ := T.dd_People___init__
  have hb : Binds K fd ["self"] [] := F.bindsN (ps := ["self"]) (fun _ _ _ _ _ _ us hl => match us, hl with | [_], _ => rfl)
  exact ⟨⟨_, fd, _, [], T.mk_People, F.ok (CX := CX0) sc_People___init__ (len_People___init__ K) (fun cdv A outer s H vs Q E hr h => ⟨t_People___init__ K, body_People___init__ T hr, pure_People___init__ vs H Q E h⟩), T.g_People, hb, .nil⟩⟩
theorem body__law_is_name (T : Txt w K mg) {cdv : Value} {A : Around} {outer : List Env} {s : Shared} {H : Hp} {E : XK} (hr : Room 0 (A.deeper (envOfC "_law_is_name" (defScope s__law_is_name) s.heap.objs.size (He.fAd K ("_law_is_name", none)) cdv))) : PSs (cxOf CX0 P w K mg base M__law_is_name "_law_is_name" (defScope s__law_is_name) (He.fAd K ("_law_is_name", none)) cdv A outer s H E) (defBody s__law_is_name) (t__law_is_name K) := by
  
  refine PSs.nox ?_
  exact (pss_cons (ps_if (PW.pt (pw_or (pt_not (pt_val (pe_callB call_isi (by rfl) (T.b_isinstance) (by decide +kernel) (pa_cons (pv 0) (pa_cons (pe_ty (by rfl) (T.b_str) (by decide +kernel)) pa_nil))))) (pw_or (pt_cmpR op_lt (pe_callB call_len_str (by rfl) (T.b_len) (by decide +kernel) (pa_cons (pv 0) pa_nil)) pe_int (nomark _)) (pw_or1 (pt_cmpR op_gt (pe_callB call_len_str (by rfl) (T.b_len) (by decide +kernel) (pa_cons (pv 0) pa_nil)) pe_int (nomark _)))))) (pss_one (ps_ret pe_bl)) pss_nil)
  (pss_one (ps_ret (pe_cmpR (op_eqD hr.units) (pe_lc (own := [("_law_sign", 1)]) (g := (gName 1)) (tt := (tTest (tOp rNiSg (tVar 1) (tC (.str "abcdefghijklmnopqrstuvwxyz"))))) rfl sc__law_is_name.nd (pi_str (pv 0)) (blkOk_by (N := M__law_is_name) (sc := defScope s__law_is_name) (own := [("_law_sign", 1)]) (by decide +kernel)) (fun _ _ _ _ _ => (pg_name (i := 1) sc__law_is_name.nd rfl (by first | exact Or.inl rfl | exact Or.inr rfl))) (fun _ _ _ _ _ => (pts_one (pt_cmpR op_notIn_sign (pv 1) pe_str (by rfl)))) (fun _ _ _ _ _ => (pv 1))) (pe_lst pa_nil) (nomark _)))))
theorem c__law_is_name (T : Txt w K mg) : U.Cal P w K mg base CX0 1 "_law_is_name" (sp__law_is_name K) [] := by
  obtain ⟨fd, F⟩ := T.dd__law_is_name
  have hb : Binds K fd ["_law_thing_here"] [] := F.bindsN (ps := ["_law_thing_here"]) (fun _ _ _ _ _ _ us hl => match us, hl with | [_], _ => rfl)
  exact ⟨⟨_, fd, _, [], F.ok (CX := CX0) sc__law_is_name (len__law_is_name K) (fun cdv A outer s H vs Q E hr h => ⟨t__law_is_name K, body__law_is_name T hr, pure__law_is_name vs H Q E h⟩), T.g__law_is_name, F.kp, hb, .nil⟩⟩
theorem body_People_cut_off (T : Txt w K mg) {cdv : Value} {A : Around} {outer : List Env} {s : Shared} {H : Hp} {E : XK} (hr : Room 2 (A.deeper (envOfC "People.cut_off" (defScope s_People_cut_off) s.heap.objs.size (He.fAd K ("People", some "cut_off")) cdv))) : PSs (cxOf (L2.CX P w) P w K mg base M_People_cut_off "People.cut_off" (defScope s_People_cut_off) (He.fAd K ("People", some "cut_off")) cdv A outer s H E) (defBody s_People_cut_off) (t_People_cut_off K (fun cls d _ H => E cls d H)) := by
  have m_People_known := m_People_known (P := P) (base := base) T
  have tk : Takes (cxOf (L2.CX P w) P w K mg base M_People_cut_off "People.cut_off" (defScope s_People_cut_off) (He.fAd K ("People", some "cut_off")) cdv A outer s H E) (fun cls d _ H => E cls d H) := takes_of rfl rfl rfl rfl
  exact (pss_cons (ps_asg (U.pe_mt (E := ES0) m_People_known hr (by decide) ps0 (pv 0) (pa_cons (pv 1) pa_nil)) (pg_name (i := 2) sc_People_cut_off.nd rfl (by first | exact Or.inl rfl | exact Or.inr rfl)))
  (pss_cons (ps_if (pt_cmpR op_isN (pv 2) pe_non (nomark _)) (pss_one (ps_rs rfl tk T.e_NoPerson T.g_NoPerson (by rfl))) pss_nil)
  (pss_cons (ps_expr (pe_dpop1 (pe_fd T.cl_People T.n_People_by_name (pv 0)) (pv 1) ⟨by rfl, by rfl, by rfl, by rfl⟩))
  (pss_one (ps_ret (pv 2))))))
theorem m_People_cut_off (T : Txt w K mg) : U.Met P w K mg base (L2.CX P w) 3 (He.ga K "People") "cut_off" (sp_People_cut_off K) [] := by
  obtain ⟨fd, F⟩ := T.dd_People_cut_off
  have hb : Binds K fd ["self", "name"] [] := F.bindsN (ps := ["self", "name"]) (fun _ _ _ _ _ _ us hl => match us, hl with | [_, _], _ => rfl)
  exact ⟨⟨_, fd, _, [], T.cl_People, T.m_People_cut_off, F.ok (CX := (L2.CX P w)) sc_People_cut_off (len_People_cut_off K) (fun cdv A outer s H vs Q E hr h => ⟨t_People_cut_off K (fun cls d _ H => E cls d H), body_People_cut_off T hr, pure_People_cut_off vs H Q E h⟩), hb, .nil⟩⟩
theorem body__law_nobody (T : Txt w K mg) {cdv : Value} {A : Around} {outer : List Env} {s : Shared} {H : Hp} {E : XK} (hr : Room 3 (A.deeper (envOfC "_law_nobody" (defScope s__law_nobody) s.heap.objs.size (He.fAd K ("_law_nobody", none)) cdv))) : PSs (cxOf CX0 P w K mg base M__law_nobody "_law_nobody" (defScope s__law_nobody) (He.fAd K ("_law_nobody", none)) cdv A outer s H E) (defBody s__law_nobody) (t__law_nobody K) := by
  have m_People_cut_off := m_People_cut_off (P := P) (base := base) T
  refine PSs.nox ?_
  exact (pss_cons (ps_asg pe_bl (pg_name (i := 2) sc__law_nobody.nd rfl (by first | exact Or.inl rfl | exact Or.inr rfl)))
  (pss_cons (ps_try_as (i := 3) (tb := fun W => (tDrop (tMt (He.ga K "People") "cut_off" (sp_People_cut_off K) [] (WE W) (tVar 0) (tCons (tVar 1) tNil)))) (ts := fun ea cls ed => (tAsg (tAndV (tCB (rIsX K ea cls ed) (tCons (tVar 3) (tCons (tC (.ref (He.ga K "NoPerson"))) tNil))) (tNotV (tCB (rIsXT K ea cls ed) (tCons (tVar 3) (tCons (tTup (tCons (tC (.ref (He.ga K "NoName"))) (tCons (tC (.ref (He.ga K "NoThing"))) (tCons (tC (.ref (He.ga K "NoHold"))) tNil)))) tNil))))) (gName 2))) (Wout := fun _ _ _ _ => False) rfl rfl sc__law_nobody.nd rfl rfl ⟨rfl, by decide, .inl T.g_HallError⟩ takes0 (fun W pn xe tk hpo => (pss_one (ps_expr (U.pe_mt (E := (WE W)) m_People_cut_off hr (by decide) (fun σ => passAt tk σ) (pv 0) (pa_cons (pv 1) pa_nil))))) (fun ea oe cls ed pn hz hf => (pss_one (ps_asg (pe_and (pe_callB (call_isX hz hf) (by rfl) (T.b_isinstance) (by decide +kernel) (pa_cons (pv 3) (pa_cons (pe_gr (by rfl) T.g_NoPerson) pa_nil))) (pe_one (pe_not (pe_callB (call_isXT hz hf) (by rfl) (T.b_isinstance) (by decide +kernel) (pa_cons (pv 3) (pa_cons (pe_tup (pa_cons (pe_gr (by rfl) T.g_NoName) (pa_cons (pe_gr (by rfl) T.g_NoThing) (pa_cons (pe_gr (by rfl) T.g_NoHold) pa_nil)))) pa_nil)))))) (pg_name (i := 2) sc__law_nobody.nd rfl (by first | exact Or.inl rfl | exact Or.inr rfl))))))
  (pss_one (ps_ret (pv 2)))))
theorem c__law_nobody (T : Txt w K mg) : U.Cal P w K mg base CX0 4 "_law_nobody" (sp__law_nobody K) [] := by
  obtain ⟨fd, F⟩ := T.dd__law_nobody
  have hb : Binds K fd ["_law_people", "_law_thing_here"] [] := F.bindsN (ps := ["_law_people", "_law_thing_here"]) (fun _ _ _ _ _ _ us hl => match us, hl with | [_, _], _ => rfl)
  exact ⟨⟨_, fd, _, [], F.ok (CX := CX0) sc__law_nobody (len__law_nobody K) (fun cdv A outer s H vs Q E hr h => ⟨t__law_nobody K, body__law_nobody T hr, pure__law_nobody vs H Q E h⟩), T.g__law_nobody, F.kp, hb, .nil⟩⟩
theorem body__law_number (T : Txt w K mg) {cdv : Value} {A : Around} {outer : List Env} {s : Shared} {H : Hp} {E : XK} (hr : Room 0 (A.deeper (envOfC "_law_number" (defScope s__law_number) s.heap.objs.size (He.fAd K ("_law_number", none)) cdv))) : PSs (cxOf CX0 P w K mg base M__law_number "_law_number" (defScope s__law_number) (He.fAd K ("_law_number", none)) cdv A outer s H E) (defBody s__law_number) (t__law_number K) := by
  
  refine PSs.nox ?_
  exact (pss_one (ps_ret (pe_and (pe_callB call_isi (by rfl) (T.b_isinstance) (by decide +kernel) (pa_cons (pv 0) (pa_cons (pe_ty (by rfl) (T.b_int) (by decide +kernel)) pa_nil))) (pe_and (pe_not (pe_callB call_isi (by rfl) (T.b_isinstance) (by decide +kernel) (pa_cons (pv 0) (pa_cons (pe_ty (by rfl) (T.b_bool) (by decide +kernel)) pa_nil)))) (pe_one (pe_cmpR op_eq (pv 0) (pv 1) (nomark _)))))))
theorem c__law_number (T : Txt w K mg) : U.Cal P w K mg base CX0 1 "_law_number" (sp__law_number K) [] := by
  obtain ⟨fd, F⟩ := T.dd__law_number
  have hb : Binds K fd ["_law_found", "_law_due"] [] := F.bindsN (ps := ["_law_found", "_law_due"]) (fun _ _ _ _ _ _ us hl => match us, hl with | [_, _], _ => rfl)
  exact ⟨⟨_, fd, _, [], F.ok (CX := CX0) sc__law_number (len__law_number K) (fun cdv A outer s H vs Q E hr h => ⟨t__law_number K, body__law_number T hr, pure__law_number vs H Q E h⟩), T.g__law_number, F.kp, hb, .nil⟩⟩
theorem body__law_pot (T : Txt w K mg) {cdv : Value} {A : Around} {outer : List Env} {s : Shared} {H : Hp} {E : XK} (hr : Room 0 (A.deeper (envOfC "_law_pot" (defScope s__law_pot) s.heap.objs.size (He.fAd K ("_law_pot", none)) cdv))) : PSs (cxOf CX0 P w K mg base M__law_pot "_law_pot" (defScope s__law_pot) (He.fAd K ("_law_pot", none)) cdv A outer s H E) (defBody s__law_pot) (t__law_pot K) := by
  
  refine PSs.nox ?_
  exact (pss_one (ps_ret (pe_lst (pa_cons (pe_callB (call_max2 rfl) (by rfl) (T.b_max) (by decide +kernel) (pa_cons pe_int (pa_cons (pe_op op_sub (pe_callB call_abs (by rfl) (T.b_abs) (by decide +kernel) (pa_cons (pv 0) pa_nil)) (pe_op op_pow pe_int pe_int)) pa_nil))) (pa_cons (pe_op op_add (pe_op op_mod (pe_callB call_abs (by rfl) (T.b_abs) (by decide +kernel) (pa_cons (pv 0) pa_nil)) pe_int) pe_int) pa_nil)))))
theorem c__law_pot (T : Txt w K mg) : U.Cal P w K mg base CX0 1 "_law_pot" (sp__law_pot K) [] := by
  obtain ⟨fd, F⟩ := T.dd__law_pot
  have hb : Binds K fd ["_law_cell_here"] [] := F.bindsN (ps := ["_law_cell_here"]) (fun _ _ _ _ _ _ us hl => match us, hl with | [_], _ => rfl)
  exact ⟨⟨_, fd, _, [], F.ok (CX := CX0) sc__law_pot (len__law_pot K) (fun cdv A outer s H vs Q E hr h => ⟨t__law_pot K, body__law_pot T hr, pure__law_pot vs H Q E h⟩), T.g__law_pot, F.kp, hb, .nil⟩⟩
theorem body__law_refused (T : Txt w K mg) {cdv : Value} {A : Around} {outer : List Env} {s : Shared} {H : Hp} {E : XK} (hr : Room 2 (A.deeper (envOfC "_law_refused" (defScope s__law_refused) s.heap.objs.size (He.fAd K ("_law_refused", none)) cdv))) : PSs (cxOf CX0 P w K mg base M__law_refused "_law_refused" (defScope s__law_refused) (He.fAd K ("_law_refused", none)) cdv A outer s H E) (defBody s__law_refused) (t__law_refused K) := by
  have m_People_number_of := m_People_number_of (P := P) (base := base) T
  refine PSs.nox ?_
  exact (pss_cons (ps_asg pe_bl (pg_name (i := 2) sc__law_refused.nd rfl (by first | exact Or.inl rfl | exact Or.inr rfl)))
  (pss_cons (ps_try_as (i := 3) (tb := fun W => (tDrop (tMt (He.ga K "People") "number_of" (sp_People_number_of K) [] (WE W) (tVar 0) (tCons (tVar 1) tNil)))) (ts := fun ea cls ed => (tSeq (tAsg (tCB (rIsXT K ea cls ed) (tCons (tVar 3) (tCons (tTup (tCons (tC (.ref (He.ga K "Answered"))) (tCons (tC (.ref (He.ga K "BadKind"))) (tCons (tC (.ref (He.ga K "NoAnswer"))) (tCons (tC (.ref (He.ga K "NoDay"))) (tCons (tC (.ref (He.ga K "NoHold"))) (tCons (tC (.ref (He.ga K "NoKind"))) (tCons (tC (.ref (He.ga K "NoMatter"))) (tCons (tC (.ref (He.ga K "NoPerson"))) (tCons (tC (.ref (He.ga K "NoRows"))) tNil)))))))))) tNil))) (gName 4))
  (tSeq (tAsg (tOrV (tVar 4) (tCB (rIsXT K ea cls ed) (tCons (tVar 3) (tCons (tTup (tCons (tC (.ref (He.ga K "NoTelling"))) (tCons (tC (.ref (He.ga K "NoText"))) (tCons (tC (.ref (He.ga K "NoThing"))) (tCons (tC (.ref (He.ga K "NoWay"))) (tCons (tC (.ref (He.ga K "Taken"))) tNil)))))) tNil)))) (gName 4))
  (tAsg (tAndV (tCB (rIsX K ea cls ed) (tCons (tVar 3) (tCons (tC (.ref (He.ga K "NoName"))) tNil))) (tAndV (tCB (rIsX K ea cls ed) (tCons (tVar 3) (tCons (tC (.ty "ValueError")) tNil))) (tNotV (tVar 4)))) (gName 2))))) (Wout := fun _ _ _ _ => False) rfl rfl sc__law_refused.nd rfl rfl ⟨rfl, by decide, .inl T.g_HallError⟩ takes0 (fun W pn xe tk hpo => (pss_one (ps_expr (U.pe_mt (E := (WE W)) m_People_number_of hr (by decide) (fun σ => passAt tk σ) (pv 0) (pa_cons (pv 1) pa_nil))))) (fun ea oe cls ed pn hz hf => (pss_cons (ps_asg (pe_callB (call_isXT hz hf) (by rfl) (T.b_isinstance) (by decide +kernel) (pa_cons (pv 3) (pa_cons (pe_tup (pa_cons (pe_gr (by rfl) T.g_Answered) (pa_cons (pe_gr (by rfl) T.g_BadKind) (pa_cons (pe_gr (by rfl) T.g_NoAnswer) (pa_cons (pe_gr (by rfl) T.g_NoDay) (pa_cons (pe_gr (by rfl) T.g_NoHold) (pa_cons (pe_gr (by rfl) T.g_NoKind) (pa_cons (pe_gr (by rfl) T.g_NoMatter) (pa_cons (pe_gr (by rfl) T.g_NoPerson) (pa_cons (pe_gr (by rfl) T.g_NoRows) pa_nil)))))))))) pa_nil))) (pg_name (i := 4) sc__law_refused.nd rfl (by first | exact Or.inl rfl | exact Or.inr rfl)))
  (pss_cons (ps_asg (pe_or (pv 4) (pe_one (pe_callB (call_isXT hz hf) (by rfl) (T.b_isinstance) (by decide +kernel) (pa_cons (pv 3) (pa_cons (pe_tup (pa_cons (pe_gr (by rfl) T.g_NoTelling) (pa_cons (pe_gr (by rfl) T.g_NoText) (pa_cons (pe_gr (by rfl) T.g_NoThing) (pa_cons (pe_gr (by rfl) T.g_NoWay) (pa_cons (pe_gr (by rfl) T.g_Taken) pa_nil)))))) pa_nil))))) (pg_name (i := 4) sc__law_refused.nd rfl (by first | exact Or.inl rfl | exact Or.inr rfl)))
  (pss_one (ps_asg (pe_and (pe_callB (call_isX hz hf) (by rfl) (T.b_isinstance) (by decide +kernel) (pa_cons (pv 3) (pa_cons (pe_gr (by rfl) T.g_NoName) pa_nil))) (pe_and (pe_callB (call_isX hz hf) (by rfl) (T.b_isinstance) (by decide +kernel) (pa_cons (pv 3) (pa_cons (pe_ty (by rfl) (T.b_ValueError) (by decide +kernel)) pa_nil))) (pe_one (pe_not (pv 4))))) (pg_name (i := 2) sc__law_refused.nd rfl (by first | exact Or.inl rfl | exact Or.inr rfl))))))))
  (pss_one (ps_ret (pv 2)))))
theorem c__law_refused (T : Txt w K mg) : U.Cal P w K mg base CX0 3 "_law_refused" (sp__law_refused K) [] := by
  obtain ⟨fd, F⟩ := T.dd__law_refused
  have hb : Binds K fd ["_law_people", "_law_thing_here"] [] := F.bindsN (ps := ["_law_people", "_law_thing_here"]) (fun _ _ _ _ _ _ us hl => match us, hl with | [_, _], _ => rfl)
  exact ⟨⟨_, fd, _, [], F.ok (CX := CX0) sc__law_refused (len__law_refused K) (fun cdv A outer s H vs Q E hr h => ⟨t__law_refused K, body__law_refused T hr, pure__law_refused vs H Q E h⟩), T.g__law_refused, F.kp, hb, .nil⟩⟩
theorem body__law_draw (T : Txt w K mg) {cdv : Value} {A : Around} {outer : List Env} {s : Shared} {H : Hp} {E : XK} (hr : Room 0 (A.deeper (envOfC "_law_draw" (defScope s__law_draw) s.heap.objs.size (He.fAd K ("_law_draw", none)) cdv))) : PSs (cxOf CX0 P w K mg base M__law_draw "_law_draw" (defScope s__law_draw) (He.fAd K ("_law_draw", none)) cdv A outer s H E) (defBody s__law_draw) (t__law_draw K) := by
  
  refine PSs.nox ?_
  exact (pss_cons (ps_if (pt_cmpR op_gt (pe_ix ix_list (pv 0) pe_int (fun _ _ => rfl)) pe_int (nomark _)) (pss_cons (ps_asg (pe_callB call_divmodW (by rfl) (T.b_divmod) (by decide +kernel) (pa_cons (pe_ix ix_list (pv 0) pe_int (fun _ _ => rfl)) (pa_cons (pv 1) pa_nil))) (pg_tup rfl (pgs_cons (pg_sub (pv 0) pe_int set_list) (pgs_cons (pg_name (i := 2) sc__law_draw.nd rfl (by first | exact Or.inl rfl | exact Or.inr rfl)) pgs_nil))))
  (pss_one (ps_ret (pv 2)))) pss_nil)
  (pss_cons (ps_asg (pe_op op_mod (pe_op op_add (pe_op op_mul (pe_ix ix_list (pv 0) pe_int (fun _ _ => rfl)) pe_int) pe_int) pe_int) (pg_sub (pv 0) pe_int set_list))
  (pss_one (ps_ret (pe_op op_mod (pe_op op_fdivW (pe_op op_mod (pe_op op_mul (pe_ix ix_list (pv 0) pe_int (fun _ _ => rfl)) (pe_ix ix_list (pv 0) pe_int (fun _ _ => rfl))) pe_int) pe_int) (pv 1))))))
theorem c__law_draw (T : Txt w K mg) : U.Cal P w K mg base CX0 1 "_law_draw" (sp__law_draw K) [] := by
  obtain ⟨fd, F⟩ := T.dd__law_draw
  have hb : Binds K fd ["_law_pot_here", "_law_many"] [] := F.bindsN (ps := ["_law_pot_here", "_law_many"]) (fun _ _ _ _ _ _ us hl => match us, hl with | [_, _], _ => rfl)
  exact ⟨⟨_, fd, _, [], F.ok (CX := CX0) sc__law_draw (len__law_draw K) (fun cdv A outer s H vs Q E hr h => ⟨t__law_draw K, body__law_draw T hr, pure__law_draw vs H Q E h⟩), T.g__law_draw, F.kp, hb, .nil⟩⟩
theorem body__law_word (T : Txt w K mg) {cdv : Value} {A : Around} {outer : List Env} {s : Shared} {H : Hp} {E : XK} (hr : Room 1 (A.deeper (envOfC "_law_word" (defScope s__law_word) s.heap.objs.size (He.fAd K ("_law_word", none)) cdv))) : PSs (cxOf CX0 P w K mg base M__law_word "_law_word" (defScope s__law_word) (He.fAd K ("_law_word", none)) cdv A outer s H E) (defBody s__law_word) (t__law_word K) := by
  have c__law_draw := c__law_draw (P := P) (base := base) T
  refine PSs.nox ?_
  exact (pss_one (ps_ret (pe_m1 PySem.F.slot_str_join PySem.F.type_str_join mt_join pe_str (pe_lc (own := [("_law_k", 1)]) (g := (gName 1)) (tt := tYes) rfl sc__law_word.nd (pi_range1 (by rfl) (T.b_range) (pa_cons (pe_op op_add pe_int (U.pe_c (E := ES0) c__law_draw hr (by decide) ps0 (by rfl) (pa_cons (pv 0) (pa_cons pe_int pa_nil)))) pa_nil)) (blkOk_by (N := M__law_word) (sc := defScope s__law_word) (own := [("_law_k", 1)]) (by decide +kernel)) (fun _ _ _ _ _ => (pg_name (i := 1) sc__law_word.nd rfl (by first | exact Or.inl rfl | exact Or.inr rfl))) (fun _ _ _ _ _ => pts_nil) (fun _ _ _ _ _ => (pe_ix ix_str pe_str (U.pe_c (E := ES0) c__law_draw hr (by decide) ps0 (by rfl) (pa_cons (pv 0) (pa_cons pe_int pa_nil))) (fun _ _ => rfl)))))))
theorem c__law_word (T : Txt w K mg) : U.Cal P w K mg base CX0 2 "_law_word" (sp__law_word K) [] := by
  obtain ⟨fd, F⟩ := T.dd__law_word
  have hb : Binds K fd ["_law_pot_here"] [] := F.bindsN (ps := ["_law_pot_here"]) (fun _ _ _ _ _ _ us hl => match us, hl with | [_], _ => rfl)
  exact ⟨⟨_, fd, _, [], F.ok (CX := CX0) sc__law_word (len__law_word K) (fun cdv A outer s H vs Q E hr h => ⟨t__law_word K, body__law_word T hr, pure__law_word vs H Q E h⟩), T.g__law_word, F.kp, hb, .nil⟩⟩
theorem body__law_thing (T : Txt w K mg) {cdv : Value} {A : Around} {outer : List Env} {s : Shared} {H : Hp} {E : XK} (hr : Room 2 (A.deeper (envOfC "_law_thing" (defScope s__law_thing) s.heap.objs.size (He.fAd K ("_law_thing", none)) cdv))) : PSs (cxOf CX0 P w K mg base M__law_thing "_law_thing" (defScope s__law_thing) (He.fAd K ("_law_thing", none)) cdv A outer s H E) (defBody s__law_thing) (t__law_thing K) := by
  have c__law_draw := c__law_draw (P := P) (base := base) T
  have c__law_word := c__law_word (P := P) (base := base) T
  refine PSs.nox ?_
  exact (pss_cons (ps_asg (U.pe_c (E := ES0) c__law_word hr (by decide) ps0 (by rfl) (pa_cons (pv 0) pa_nil)) (pg_name (i := 1) sc__law_thing.nd rfl (by first | exact Or.inl rfl | exact Or.inr rfl)))
  (pss_cons (ps_asg (U.pe_c (E := ES0) c__law_draw hr (by decide) ps0 (by rfl) (pa_cons (pv 0) (pa_cons pe_int pa_nil))) (pg_name (i := 2) sc__law_thing.nd rfl (by first | exact Or.inl rfl | exact Or.inr rfl)))
  (pss_cons (ps_if (pt_cmpR op_gt (pv 2) pe_int (nomark _)) (pss_one (ps_ret (pv 1))) pss_nil)
  (pss_cons (ps_asg (U.pe_c (E := ES0) c__law_draw hr (by decide) ps0 (by rfl) (pa_cons (pv 0) (pa_cons (pe_op op_add (pe_callB call_len_str (by rfl) (T.b_len) (by decide +kernel) (pa_cons (pv 1) pa_nil)) pe_int) pa_nil))) (pg_name (i := 3) sc__law_thing.nd rfl (by first | exact Or.inl rfl | exact Or.inr rfl)))
  (pss_cons (ps_asg (pe_ix ix_str pe_str (U.pe_c (E := ES0) c__law_draw hr (by decide) ps0 (by rfl) (pa_cons (pv 0) (pa_cons pe_int pa_nil))) (fun _ _ => rfl)) (pg_name (i := 4) sc__law_thing.nd rfl (by first | exact Or.inl rfl | exact Or.inr rfl)))
  (pss_cons (ps_if (pt_cmpR op_eq (pv 2) pe_int (nomark _)) (pss_one (ps_ret (pe_op op_add_str (pe_op op_add_str (pe_slice sl_str (pv 1) po_none (po_some (pv 3))) (pv 4)) (pe_slice sl_str (pv 1) (po_some (pv 3)) po_none)))) pss_nil)
  (pss_cons (ps_if (pt_cmpR op_eq (pv 2) pe_int (nomark _)) (pss_one (ps_ret (pe_op op_add_str (pe_op op_add_str (pe_slice sl_str (pv 1) po_none (po_some (pv 3))) (pv 4)) (pe_slice sl_str (pv 1) (po_some (pe_op op_add (pv 3) pe_int)) po_none)))) pss_nil)
  (pss_one (ps_ret (pe_ix ix_list (pe_lst (pa_cons pe_str (pa_cons pe_int (pa_cons pe_bl (pa_cons pe_non (pa_cons (pe_lst (pa_cons (pv 1) pa_nil)) (pa_cons (pe_tup (pa_cons (pv 1) pa_nil)) (pa_cons (pe_disp (pps_cons (pv 1) (pv 1) pps_nil) (by rfl) (by rfl) (fun z => by cases z) (by decide)) (pa_cons (pe_op op_mulS (pv 1) pe_int) pa_nil))))))))) (U.pe_c (E := ES0) c__law_draw hr (by decide) ps0 (by rfl) (pa_cons (pv 0) (pa_cons pe_int pa_nil))) (fun _ _ => rfl)))))))))))
theorem c__law_thing (T : Txt w K mg) : U.Cal P w K mg base CX0 3 "_law_thing" (sp__law_thing K) [] := by
  obtain ⟨fd, F⟩ := T.dd__law_thing
  have hb : Binds K fd ["_law_pot_here"] [] := F.bindsN (ps := ["_law_pot_here"]) (fun _ _ _ _ _ _ us hl => match us, hl with | [_], _ => rfl)
  exact ⟨⟨_, fd, _, [], F.ok (CX := CX0) sc__law_thing (len__law_thing K) (fun cdv A outer s H vs Q E hr h => ⟨t__law_thing K, body__law_thing T hr, pure__law_thing vs H Q E h⟩), T.g__law_thing, F.kp, hb, .nil⟩⟩
theorem body_law (T : Txt w K mg) {cdv : Value} {A : Around} {outer : List Env} {s : Shared} {H : Hp} {E : XK} (hr : Room 4 (A.deeper (envOfC "law" (defScope s_law) s.heap.objs.size (He.fAd K ("law", none)) cdv))) : PSs (cxOf CX0 P w K mg base M_law "law" (defScope s_law) (He.fAd K ("law", none)) cdv A outer s H E) (defBody s_law) (t_law K) := by
  have m_People_known := m_People_known (P := P) (base := base) T
  have m_People_name_of := m_People_name_of (P := P) (base := base) T
  have m_People_number_of := m_People_number_of (P := P) (base := base) T
  have m_People_numbers := m_People_numbers (P := P) (base := base) T
  have k_People := k_People (P := P) (base := base) T
  have c__law_is_name := c__law_is_name (P := P) (base := base) T
  have c__law_nobody := c__law_nobody (P := P) (base := base) T
  have c__law_number := c__law_number (P := P) (base := base) T
  have c__law_pot := c__law_pot (P := P) (base := base) T
  have c__law_refused := c__law_refused (P := P) (base := base) T
  have c__law_thing := c__law_thing (P := P) (base := base) T
  have c_is_name := c_is_name (P := P) (base := base) T
  refine PSs.nox ?_
  exact (pss_cons (ps_asg (U.pe_mk0 (E := ES0) k_People hr (by decide) ps0 (by rfl)) (pg_name (i := 1) sc_law.nd rfl (by first | exact Or.inl rfl | exact Or.inr rfl)))
  (pss_cons (ps_asg (pe_lst pa_nil) (pg_name (i := 2) sc_law.nd rfl (by first | exact Or.inl rfl | exact Or.inr rfl)))
  (pss_cons (ps_for PassesOwn.never rfl (pi_list (pe_slice sl_list (pv 0) po_none (po_some pe_int))) (pg_name (i := 3) sc_law.nd rfl (by first | exact Or.inl rfl | exact Or.inr rfl)) (pss_cons (ps_asg (U.pe_c (E := ES0) c__law_thing hr (by decide) ps0 (by rfl) (pa_cons (U.pe_c (E := ES0) c__law_pot hr (by decide) ps0 (by rfl) (pa_cons (pv 3) pa_nil)) pa_nil)) (pg_name (i := 4) sc_law.nd rfl (by first | exact Or.inl rfl | exact Or.inr rfl)))
  (pss_cons (ps_asg (U.pe_c (E := ES0) c__law_is_name hr (by decide) ps0 (by rfl) (pa_cons (pv 4) pa_nil)) (pg_name (i := 5) sc_law.nd rfl (by first | exact Or.inl rfl | exact Or.inr rfl)))
  (pss_cons (ps_asg (U.pe_c (E := ES0) c_is_name hr (by decide) ps0 (by rfl) (pa_cons (pv 4) pa_nil)) (pg_name (i := 6) sc_law.nd rfl (by first | exact Or.inl rfl | exact Or.inr rfl)))
  (pss_cons (ps_if (PW.pt (pw_or (pt_not (pt_val (pe_callB call_isi (by rfl) (T.b_isinstance) (by decide +kernel) (pa_cons (pv 6) (pa_cons (pe_ty (by rfl) (T.b_bool) (by decide +kernel)) pa_nil))))) (pw_or1 (pt_cmpR op_ne (pv 6) (pv 5) (nomark _))))) (pss_one (ps_ret pe_bl)) pss_nil)
  (pss_one (ps_if (pt_not (pt_val (pv 5))) (pss_one (ps_if (PW.pt (pw_or (pt_not (pt_val (U.pe_c (E := ES0) c__law_refused hr (by decide) ps0 (by rfl) (pa_cons (pv 1) (pa_cons (pv 4) pa_nil))))) (pw_or (pt_cmpR op_notN (U.pe_mt (E := ES0) m_People_known hr (by decide) ps0 (pv 1) (pa_cons (pv 4) pa_nil)) pe_non (nomark _)) (pw_or1 (pt_not (pt_val (U.pe_c (E := ES0) c__law_nobody hr (by decide) ps0 (by rfl) (pa_cons (pv 1) (pa_cons (pv 4) pa_nil))))))))) (pss_one (ps_ret pe_bl)) pss_nil)) (pss_cons (ps_if (pt_cmpR op_notIn_seq (pv 4) (pv 2) (by rfl)) (pss_cons (ps_if (pt_cmpR op_notN (U.pe_mt (E := ES0) m_People_known hr (by decide) ps0 (pv 1) (pa_cons (pv 4) pa_nil)) pe_non (nomark _)) (pss_one (ps_ret pe_bl)) pss_nil)
  (pss_one (ps_expr (pe_bm PySem.F.plainAttrs_list PySem.F.slot_list_append PySem.F.type_list_append mt_append (pv 2) (pa_cons (pv 4) pa_nil))))) pss_nil)
  (pss_cons (ps_asg (pe_op op_add pe_int (pe_bm PySem.F.plainAttrs_list PySem.F.slot_list_index PySem.F.type_list_index mt_index (pv 2) (pa_cons (pv 4) pa_nil))) (pg_name (i := 7) sc_law.nd rfl (by first | exact Or.inl rfl | exact Or.inr rfl)))
  (pss_one (ps_if (PW.pt (pw_or (pt_not (pt_val (U.pe_c (E := ES0) c__law_number hr (by decide) ps0 (by rfl) (pa_cons (U.pe_mt (E := ES0) m_People_number_of hr (by decide) (psL) (pv 1) (pa_cons (pv 4) pa_nil)) (pa_cons (pv 7) pa_nil))))) (pw_or1 (pt_not (pt_val (U.pe_c (E := ES0) c__law_number hr (by decide) ps0 (by rfl) (pa_cons (U.pe_mt (E := ES0) m_People_known hr (by decide) ps0 (pv 1) (pa_cons (pv 4) pa_nil)) (pa_cons (pv 7) pa_nil)))))))) (pss_one (ps_ret pe_bl)) pss_nil)))))))))))
  (pss_cons (ps_if (pt_cmpR (op_neD hr.units) (U.pe_mt0 (E := ES0) m_People_numbers hr (by decide) ps0 (pv 1)) (pe_listRg rfl (by rfl) (T.b_list) (prg_2 (by rfl) (T.b_range) pe_int (pe_op op_add (pe_callB call_len_seq (by rfl) (T.b_len) (by decide +kernel) (pa_cons (pv 2) pa_nil)) pe_int))) (nomark _)) (pss_one (ps_ret pe_bl)) pss_nil)
  (pss_one (ps_ret (pe_and (pe_cmpR (op_eqD hr.units) (pe_lc (own := [("_law_k", 8)]) (g := (gName 8)) (tt := tYes) rfl sc_law.nd (pi_list (U.pe_mt0 (E := ES0) m_People_numbers hr (by decide) ps0 (pv 1))) (blkOk_by (N := M_law) (sc := defScope s_law) (own := [("_law_k", 8)]) (by decide +kernel)) (fun _ _ _ _ _ => (pg_name (i := 8) sc_law.nd rfl (by first | exact Or.inl rfl | exact Or.inr rfl))) (fun _ _ _ _ _ => pts_nil) (fun _ _ _ _ _ => (U.pe_mt (E := ES0) m_People_name_of hr (by decide) ps0 (pv 1) (pa_cons (pv 8) pa_nil)))) (pv 2) (nomark _)) (pe_one (U.pe_c (E := ES0) c__law_refused hr (by decide) ps0 (by rfl) (pa_cons (pv 1) (pa_cons pe_str pa_nil)))))))))))
theorem ok_law (T : Txt w K mg) : ∃ fd : FuncData, (∀ (s : Shared) (v : Value), BindsTo s fd ⟨[v], []⟩ [("_law_script", v)]) ∧ ∀ base : Heap, FnOk P w K mg base CX0 5 (He.ga K "law") fd ["_law_script"] (sp_law K) := by
  obtain ⟨fd, F⟩ := T.dd_law
  have b := FunD.bindsA (ps := ["_law_script"]) F fun _ _ _ _ _ _ us hl => match us, hl with | [_], _ => rfl
  exact ⟨fd, fun s v => b s [v] rfl, fun base => F.ok (CX := CX0) sc_law (len_law K) (fun cdv A outer s H vs Q E hr h => ⟨t_law K, body_law T hr, pure_law vs H Q E h⟩)⟩
end
def loose0 : List Str := ["_wall", "HallError", "NoName", "BadKind", "NoText", "NoPerson", "Taken", "NoKind", "NoMatter", "NoThing", "NoWay", "NoRows", "NoDay", "NoHold", "NoTelling", "NoAnswer", "Answered", "LETTERS", "MOST_LETTERS", "is_name", "People", "_law_cell", "_law_pot", "_law_draw", "_law_word", "_law_is_name", "_law_thing", "_law_refused", "_law_nobody", "_law_number"]
def loose : List Str := loose0
abbrev R : PySem.W.OpenRow := PySem.W.OpenLaw.row PySem.Challenge.rw_forgethall_k11_names_and_numbers
abbrev hk : PySem.W.Hook := He.hookX 6 fa fn [] [] ex
def ob (s : PySem.W.SharedT) : He.AlX := He.obsX 6 fa fn [] [] ex (HandSHeadRun.getT s)
theorem ob_eq (s : PySem.W.SharedT) : ob s = hk.obs s.abs := He.obsX_eq (HandSHeadRun.getT_eq s)
theorem run (w : World) : HandSHeadRun.RunEq R (PySem.W.view R.prog [33]) hk ob 6000 loose w := by
  intro os
  kernel_rfl
end G
open PySem PySem.W PySem.Calls PyProof.Rows
set_option maxRecDepth 100000 in
theorem PySem.Challenge.cw_forgethall_k11_names_and_numbers_holds : PySem.Challenge.rw_forgethall_k11_names_and_numbers.Holds := by
  w_on; o_law
  refine HandSHeadRun.head_any (r := (OpenLaw.row PySem.Challenge.rw_forgethall_k11_names_and_numbers)) (q := view (OpenLaw.row PySem.Challenge.rw_forgethall_k11_names_and_numbers).prog [33]) (H := G.hk) (ob := G.ob) (M := 6000) (loose := G.loose) (d := HandSHeadRun.topDef (OpenLaw.row PySem.Challenge.rw_forgethall_k11_names_and_numbers).prog 33) (kwd := []) G.ob_eq
    (by kernel_rfl) (fun s => by kernel_rfl) G.run (by kernel_rfl) (by kernel_rfl) (by kernel_rfl) (by rfl) (by first | assumption | decide +kernel) (by decide +kernel) ⟨rfl, rfl, rfl, rfl, rfl, by decide +kernel⟩ ?hw ?hc
  case hw => w_witness2
  case hc =>
    refine L2.walk_ofE (l := PySem.Challenge.rw_forgethall_k11_names_and_numbers) (n := 63) (k := 5) (x := "_law_script") (CX := L2.CX0) rfl (by decide) (by kernel_rfl) ⟨rfl, by decide, by decide⟩ ?F (fun _ _ _ _ z => z)
    intro w mg fa h Y GG hmg0
    obtain ⟨K, KX, c⟩ := Y
    have T : G.Txt w K mg := ⟨h, KX, GG, c⟩
    have hmg : mg ("law" : PySem.Str) = some (.ref fa) := by
      have e : (HandSHeadRun.topDef (OpenLaw.row PySem.Challenge.rw_forgethall_k11_names_and_numbers).prog 33).name = ("law" : PySem.Str) := by kernel_rfl
      rw [← e]
      exact hmg0
    have e := hmg.symm.trans T.g_law
    cases e
    obtain ⟨fd, hb, hF⟩ := G.ok_law (P := (PySem.Challenge.rw_forgethall_k11_names_and_numbers).prog) T
    exact ⟨K, fd, G.sp_law K, KX, hb, fun H a ns hl hO hS => G.law_asks K (U.errB_ok c.more) H a ns hl hO hS, fun base _ _ => hF base⟩
